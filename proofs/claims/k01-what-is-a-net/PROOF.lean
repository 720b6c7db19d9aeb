import PyProof.Rows.All
import KE.KDictZip
import PyProof.EnumMake
import PyProof.Draws
import HandS.Conv
import Wide.All
import OpenK.AllK
import Wide.FinOn
import HandS.ForMost
import HandS.ForExc
import HandS.Walk
import HandS.IsInst
import KE.KDictKeyed
import KE.KDictCopyH
import HandS.More
import HandS.ExcInit
import HandS.ExcField
import KE.KExcIs
import HandS.Style
import HandS.SetFor
import PyProof.SeqRoads2
import KE.SortData
import HandS.DictEq
import HandS.TupAny
import HandS.Iter
import KE.KDictSum
import HandS.DictTup
import HandS.ListItems
import HandS.StrMore
import KE.KEqDict
import KE.KDictWalk
import HandS.Text
import HandS.Zip
import HandS.ReplaceLit
import PyProof.Rows.StrStrike
import HandS.Codes
import HandS.Strs
import KE.KDictDisplayH
import HandS.TupLen
import KE.KDictPairs
import HandS.Flow
import HandS.Flt
import PySem.Challenge.RW_anydelay_k01_what_is_a_net
set_option Elab.async false
set_option linter.all false
set_option maxRecDepth 100000
namespace VL
open PySem L2
abbrev NX := List (NestedKey × Addr × Value)

/-! data, results -/
inductive D where
  | non | bl (b : Bool) | int (i : Int) | str (x : List Nat) | tup (l : List D) | lst (l : List D) | dct (k : Bool) (l : List (D × D)) | opq (v : Option V) | exc (k : Nat) (l : List D) | fd (o : Obj) (kvs : List (Key × V)) (l : List (D × D)) | fz (l : List (D × D))
abbrev Lab := List Nat
inductive T where
  | f (x : D) | l (ds : List D) | ll (ts : List T) | tt (ts : List T) | dc (k : Bool) (kvs : List (D × D)) | dl (ks : List D) (ts : List T) | ob (k : Nat) (ks : List Str) (ts : List T) | nx (ep : Nat) (xs : NX) (l : List (D × D)) | no (ep : Nat) (xs : NX) (l : List (D × D)) | lf (l : List (D × D)) | hole (w : V)
structure Ex where
  k : Nat
  a : Option D
inductive Res (α : Type) where
  | ok (a : α) | err (e : Ex) | fail
def rb {α β : Type} (m : Res α) (k : α → Res β) : Res β := match m with | .ok a => k a | .err e => .err e | .fail => .fail
def ob {α β : Type} (m : Option α) (k : α → Res β) : Res β := match m with | some a => k a | none => .fail
theorem rb_cases {α β : Type} {m : Res α} {k : α → Res β} (h : rb m k ≠ .fail) : (∃ a, m = .ok a ∧ rb m k = k a) ∨ (∃ e, m = .err e ∧ rb m k = .err e) := by
  cases m with
  | ok a => exact .inl ⟨a, rfl, rfl⟩
  | err e => exact .inr ⟨e, rfl, rfl⟩
  | fail => exact absurd rfl h
theorem ob_cases {α β : Type} {m : Option α} {k : α → Res β} (h : ob m k ≠ .fail) : ∃ a, m = some a ∧ ob m k = k a := by
  cases m with
  | some a => exact ⟨a, rfl, rfl⟩
  | none => exact absurd rfl h

def mkS (l : List Nat) : Str := ⟨l.toArray⟩
theorem mkS_cps (l : List Nat) : (mkS l).cps.toList = l := by simp [mkS]
theorem mkS_len (l : List Nat) : (mkS l).length = l.length := by simp [mkS, Str.length]
theorem mkS_of (x : Str) : mkS x.cps.toList = x := by simp [mkS]
theorem mkS_inj {a b : List Nat} (h : mkS a = mkS b) : a = b := by
  have := congrArg (fun s : Str => s.cps.toList) h
  simpa [mkS] using this

/-! what a value tells, in a heap -/
def kD : Key → D
  | .inl i => .int i
  | .inr x => .str x.cps.toList
/-! dicts keyed by nested tuples -/
mutual
def nkD : D → Option NestedKey
  | .non => some .none
  | .bl b => some (.num (if b = true then 1 else 0))
  | .int i => some (.num i)
  | .str x => some (.text (mkS x))
  | .tup l => (nkDs l).map .tup
  | _ => none
def nkDs : List D → Option (List NestedKey)
  | [] => some []
  | d :: r => match nkD d, nkDs r with | some k, some q => some (k :: q) | _, _ => none
end
def exN (w : World) (a : Addr) (ep : Nat) (xs : NX) : HO :=
  .ext fun h => ∃ o es, h.get? a = some o ∧ o.ExactDict ∧ o.data = .dict es ep ∧ es.toList = xs.map fun x => (⟨x.1.hash w, .ref x.2.1, x.2.2⟩ : DictEntry)
def NDg (a : Addr) (xs : NX) : Prop := (xs.map (·.1)).Nodup ∧ xs.length ≤ sizeLine ∧ (a == sysModules) = false
/-! exceptions: the address of each class; an exception that was caught -/
class EC where
  ec : Nat → Addr
  pg : Program
  wd : World
variable [EC]
def exH (x C : Addr) (dd : Option Addr) : HO := .ext fun h => ∃ (oe : Obj) (vs : Array Value), h.get? x = some oe ∧ Zc (.ref C) dd oe ∧ oe.data = .fields vs
/-- one whose context is None -/
def exHn (x C : Addr) (dd : Option Addr) : HO := .ext fun h => ∃ (oe : Obj) (vs : Array Value), h.get? x = some oe ∧ Zc (.ref C) dd oe ∧ oe.data = .fields vs ∧ vs[2]? = some .none
abbrev IsExc (G : Hp) (x C : Addr) (dd : Option Addr) : Prop := G x = some (exH x C dd) ∨ G x = some (exHn x C dd)
mutual
def Rep (G : Hp) : D → V → Prop
  | .non, v => v = .non
  | .bl b, v => v = .bl b
  | .int i, v => v = .int i
  | .str x, v => v = .str (mkS x)
  | .tup l, v => ∃ a vs, v = .ref a ∧ G a = some (.tup vs) ∧ l.length ≤ sizeLine ∧ Reps G l vs
  | .lst l, v => ∃ a vs, v = .ref a ∧ Rd G a (.lst vs) ∧ l.length ≤ sizeLine ∧ Reps G l vs
  | .dct false l, v => ∃ a kvs, v = .ref a ∧ Rd G a (.dK kvs) ∧ RepK G l kvs
  | .dct true l, v => ∃ a ep xs, v = .ref a ∧ G a = some (exN EC.wd a ep xs) ∧ NDg a xs ∧ RepX G l xs
  | .opq w, v => ∀ u, w = some u → v = u
  | .exc k l, v => ∃ x dd us, v = .ref x ∧ IsExc G x (EC.ec k) dd ∧ Reps G l us ∧ ((us = [] ∧ dd = none) ∨ ∃ u dx, us = [u] ∧ dd = some dx ∧ G dx = some (.xd [("at", u)]))
  | .fd o kvs l, v => ∃ a, v = .ref a ∧ G a = some (.frz o (.dK kvs)) ∧ RepK G l kvs
  | .fz l, v => ∃ a o kvs, v = .ref a ∧ G a = some (.frz o (.dK kvs)) ∧ RepK G l kvs
def Reps (G : Hp) : List D → List V → Prop
  | [], vs => vs = []
  | d :: ds, vs => ∃ v r, vs = v :: r ∧ Rep G d v ∧ Reps G ds r
def RepK (G : Hp) : List (D × D) → List (Key × V) → Prop
  | [], vs => vs = []
  | (k, d) :: ds, vs => ∃ kk v r, vs = (kk, v) :: r ∧ k = kD kk ∧ Rep G d v ∧ RepK G ds r
def RepX (G : Hp) : List (D × D) → NX → Prop
  | [], xs => xs = []
  | (k, d) :: ds, xs => ∃ kk b u x r, xs = (kk, b, u) :: r ∧ nkD k = some kk ∧ kk.depth ≤ 8 ∧ RelV x u ∧ Rep G k (.ref b) ∧ Rep G d x ∧ RepX G ds r
end
/-! own dicts with keys None, whole numbers and texts -/
def lfD : D → Option Leaf | .non => some .none | .int i => some (.num i) | .str x => some (.text (mkS x)) | _ => none
def lfH (a : Addr) (kvs : List (Leaf × V)) : HO := .ext fun h => ∃ vs, KV kvs vs ∧ h.DictOf (leafKind EC.pg EC.wd) a vs
def RepL (G : Hp) : List (D × D) → List (Leaf × V) → Prop
  | [], vs => vs = []
  | (k, d) :: ds, vs => ∃ kk v r, vs = (kk, v) :: r ∧ lfD k = some kk ∧ Rep G d v ∧ RepL G ds r
theorem Same.rd {G G' : Hp} (s : Same G G') {a : Addr} {o : HO} (h : Rd G a o) : Rd G' a o := by
  rcases h with h | ⟨x, h⟩
  · exact .inl (s _ _ h)
  · exact .inr ⟨x, s _ _ h⟩
mutual
theorem Rep.mono {G G' : Hp} (s : Same G G') : ∀ (d : D) (v : V), Rep G d v → Rep G' d v
  | .non, _, h => h
  | .bl _, _, h => h
  | .int _, _, h => h
  | .str _, _, h => h
  | .opq _, _, h => h
  | .exc k l, _, ⟨x, dd, us, e, r, q, z⟩ => ⟨x, dd, us, e, r.imp (s _ _) (s _ _), Reps.mono s l us q, z.imp id fun ⟨u, dx, a, b, c⟩ => ⟨u, dx, a, b, s _ _ c⟩⟩
  | .fd o kvs l, _, ⟨a, e, r, q⟩ => ⟨a, e, s _ _ r, RepK.mono s l kvs q⟩
  | .fz l, _, ⟨a, o, kvs, e, r, q⟩ => ⟨a, o, kvs, e, s _ _ r, RepK.mono s l kvs q⟩
  | .tup l, _, ⟨a, vs, e, r, z, q⟩ => ⟨a, vs, e, s _ _ r, z, Reps.mono s l vs q⟩
  | .lst l, _, ⟨a, vs, e, r, z, q⟩ => ⟨a, vs, e, Same.rd s r, z, Reps.mono s l vs q⟩
  | .dct false l, _, ⟨a, kvs, e, r, q⟩ => ⟨a, kvs, e, Same.rd s r, RepK.mono s l kvs q⟩
  | .dct true l, _, ⟨a, ep, xs, e, r, g, q⟩ => ⟨a, ep, xs, e, s _ _ r, g, RepX.mono s l xs q⟩
theorem Reps.mono {G G' : Hp} (s : Same G G') : ∀ (l : List D) (vs : List V), Reps G l vs → Reps G' l vs
  | [], _, h => h
  | d :: ds, _, ⟨v, r, e, h, q⟩ => ⟨v, r, e, Rep.mono s d v h, Reps.mono s ds r q⟩
theorem RepK.mono {G G' : Hp} (s : Same G G') : ∀ (l : List (D × D)) (vs : List (Key × V)), RepK G l vs → RepK G' l vs
  | [], _, h => h
  | (k, d) :: ds, _, ⟨kk, v, r, e, ek, h, q⟩ => ⟨kk, v, r, e, ek, Rep.mono s d v h, RepK.mono s ds r q⟩
theorem RepX.mono {G G' : Hp} (s : Same G G') : ∀ (l : List (D × D)) (xs : NX), RepX G l xs → RepX G' l xs
  | [], _, h => h
  | (k, d) :: ds, _, ⟨kk, b, u, x, r, e, ek, dp, rv, hk, h, q⟩ => ⟨kk, b, u, x, r, e, ek, dp, rv, Rep.mono s k _ hk, Rep.mono s d x h, RepX.mono s ds r q⟩
end
theorem Reps.length {G : Hp} : ∀ {l : List D} {vs : List V}, Reps G l vs → l.length = vs.length
  | [], _, h => by cases h; rfl
  | d :: ds, _, ⟨v, r, e, h, q⟩ => by subst e; simp [Reps.length q]
theorem Reps.get {G : Hp} : ∀ {l : List D} {vs : List V} {i : Nat} {d : D}, Reps G l vs → l[i]? = some d → ∃ v, vs[i]? = some v ∧ Rep G d v
  | [], _, _, _, _, e => by simp at e
  | d :: ds, _, 0, x, ⟨v, r, e, h, q⟩, e2 => by subst e; simp at e2; subst e2; exact ⟨v, rfl, h⟩
  | d :: ds, _, i + 1, x, ⟨v, r, e, h, q⟩, e2 => by
    subst e
    obtain ⟨v', a, b⟩ := Reps.get (i := i) q (by simpa using e2)
    exact ⟨v', by simpa using a, b⟩
theorem Reps.of {G : Hp} : ∀ {l : List D} {vs : List V}, l.length = vs.length → (∀ (i : Nat) d v, l[i]? = some d → vs[i]? = some v → Rep G d v) → Reps G l vs
  | [], [], _, _ => rfl
  | [], _ :: _, e, _ => by simp at e
  | _ :: _, [], e, _ => by simp at e
  | d :: ds, v :: vs, e, h => ⟨v, vs, rfl, h 0 d v rfl rfl, Reps.of (by simpa using e) fun i d' v' a b => h (i + 1) d' v' (by simpa using a) (by simpa using b)⟩
theorem Reps.append {G : Hp} : ∀ {l m : List D} {vs ws : List V}, Reps G l vs → Reps G m ws → Reps G (l ++ m) (vs ++ ws)
  | [], _, _, _, h, q => by cases h; exact q
  | d :: ds, _, _, _, ⟨v, r, e, h, q⟩, q2 => by subst e; exact ⟨v, r ++ _, rfl, h, Reps.append q q2⟩
theorem Reps.take {G : Hp} (n : Nat) : ∀ {l : List D} {vs : List V}, Reps G l vs → Reps G (l.take n) (vs.take n) := fun {l vs} h => by
  refine Reps.of (by simp [h.length]) fun i d v a b => ?_
  rw [List.getElem?_take] at a b
  split at a
  · rename_i hi
    rw [if_pos hi] at b
    obtain ⟨v', e, r⟩ := h.get a
    rw [b] at e; cases e; exact r
  · cases a
theorem Reps.drop {G : Hp} (n : Nat) : ∀ {l : List D} {vs : List V}, Reps G l vs → Reps G (l.drop n) (vs.drop n) := fun {l vs} h => by
  refine Reps.of (by simp [h.length]) fun i d v a b => ?_
  rw [List.getElem?_drop] at a b
  obtain ⟨v', e, r⟩ := h.get a
  rw [b] at e; cases e; exact r
theorem Reps.set {G : Hp} {l : List D} {vs : List V} {d : D} {v : V} (i : Nat) (h : Reps G l vs) (r : Rep G d v) : Reps G (l.set i d) (vs.set i v) := by
  refine Reps.of (by simp [h.length]) fun j d' v' a b => ?_
  rw [List.getElem?_set] at a b
  have hl := h.length
  split at a
  · rename_i hj
    split at a
    · rename_i hj2
      rw [if_pos hj, if_pos (by omega)] at b
      cases a; cases b; exact r
    · cases a
  · rename_i hj
    rw [if_neg hj] at b
    obtain ⟨w, e, r'⟩ := h.get a
    rw [b] at e; cases e; exact r'
theorem Reps.eraseIdx {G : Hp} {l : List D} {vs : List V} (k : Nat) (h : Reps G l vs) : Reps G (l.eraseIdx k) (vs.eraseIdx k) := by
  rw [List.eraseIdx_eq_take_drop_succ, List.eraseIdx_eq_take_drop_succ]
  exact (h.take k).append (h.drop (k + 1))
theorem Reps.reverse {G : Hp} : ∀ {l : List D} {vs : List V}, Reps G l vs → Reps G l.reverse vs.reverse
  | [], _, h => by cases h; exact rfl
  | d :: ds, _, ⟨v, r, e, h, q⟩ => by
    subst e
    rw [List.reverse_cons, List.reverse_cons]
    exact (Reps.reverse q).append ⟨v, [], rfl, h, rfl⟩
theorem Reps.map {G : Hp} {α : Type} (f : α → D) (g : α → V) : ∀ (xs : List α), (∀ x ∈ xs, Rep G (f x) (g x)) → Reps G (xs.map f) (xs.map g)
  | [], _ => rfl
  | x :: r, h => ⟨g x, r.map g, rfl, h x List.mem_cons_self, Reps.map f g r fun y hy => h y (List.mem_cons_of_mem _ hy)⟩

theorem RepK.ofZip {G : Hp} : ∀ (kvs : List (Key × V)) (ds : List D), Reps G ds (kvs.map Prod.snd) → RepK G ((kvs.map fun q => kD q.1).zip ds) kvs
  | [], [], _ => rfl
  | [], d :: ds, ⟨v, r, e, _⟩ => by cases e
  | q :: kvs, [], h => by cases (show _ :: _ = [] from h)
  | (k, v0) :: kvs, d :: ds, ⟨v, r, e, h, h2⟩ => by
    injection e with e1 e2
    subst e1; subst e2
    exact ⟨k, v0, kvs, rfl, rfl, h, RepK.ofZip kvs ds h2⟩
/-! owned things -/
mutual
def Own (G H : Hp) (ω : Addr → Option Lab) : Lab → T → V → Prop
  | _, .f d, v => Rep G d v
  | p, .l ds, v => ∃ a vs, v = .ref a ∧ H a = some (.lst vs) ∧ ω a = some p ∧ ds.length ≤ sizeLine ∧ Reps G ds vs
  | p, .ll ts, v => ∃ a vs, v = .ref a ∧ H a = some (.lst vs) ∧ ω a = some p ∧ ts.length ≤ sizeLine ∧ Owns G H ω p 0 ts vs
  | p, .tt ts, v => ∃ a vs, v = .ref a ∧ H a = some (.tup vs) ∧ ω a = some p ∧ ts.length ≤ sizeLine ∧ Owns G H ω p 0 ts vs
  | p, .dc false l, v => ∃ a kvs, v = .ref a ∧ ω a = some p ∧ H a = some (.dK kvs) ∧ RepK G l kvs
  | p, .dc true l, v => ∃ a ep xs, v = .ref a ∧ ω a = some p ∧ H a = some (exN EC.wd a ep xs) ∧ NDg a xs ∧ RepX G l xs
  | _, .nx ep xs l, v => ∃ a, v = .ref a ∧ G a = some (exN EC.wd a ep xs) ∧ NDg a xs ∧ RepX G l xs
  | p, .no ep xs l, v => ∃ a, v = .ref a ∧ ω a = some p ∧ H a = some (exN EC.wd a ep xs) ∧ NDg a xs ∧ RepX G l xs
  | p, .dl ks ts, v => ∃ a kvs, v = .ref a ∧ ω a = some p ∧ H a = some (.dK kvs) ∧ ks = (kvs.map fun q => kD q.1) ∧ Owns G H ω p 0 ts (kvs.map Prod.snd)
  | p, .ob k ks ts, v => ∃ a dx fs, v = .ref a ∧ ω a = some p ∧ H a = some (.ins (EC.ec k) dx fs) ∧ ks = (fs.map Prod.fst) ∧ Owns G H ω p 0 ts (fs.map Prod.snd)
  | p, .lf l, v => ∃ a kvs, v = .ref a ∧ ω a = some p ∧ H a = some (lfH a kvs) ∧ ((a == sysModules) = false ∧ kvs.length ≤ sizeLine) ∧ RepL G l kvs
  | _, .hole w, v => v = w
def Owns (G H : Hp) (ω : Addr → Option Lab) : Lab → Nat → List T → List V → Prop
  | _, _, [], vs => vs = []
  | p, i, t :: ts, vs => ∃ v r, vs = v :: r ∧ Own G H ω (p ++ [i]) t v ∧ Owns G H ω p (i + 1) ts r
end
theorem RepL.mono {G G' : Hp} (s : Same G G') : ∀ (l : List (D × D)) (vs : List (Leaf × V)), RepL G l vs → RepL G' l vs
  | [], _, h => h
  | (k, d) :: ds, _, ⟨kk, v, r, e, ek, h, q⟩ => ⟨kk, v, r, e, ek, Rep.mono s d v h, RepL.mono s ds r q⟩
mutual
theorem Own.move {G G' H H' : Hp} {ω ω' : Addr → Option Lab} (s : Same G G') : ∀ (p q : Lab) (t : T) (v : V), (∀ a x, ω a = some (p ++ x) → H' a = H a ∧ ω' a = some (q ++ x)) → Own G H ω p t v → Own G' H' ω' q t v
  | _, _, .f d, v, _, h => Rep.mono s d v h
  | p, q, .l ds, v, m, ⟨a, vs, e, h, w, z, r⟩ => by
    obtain ⟨m1, m2⟩ := m a [] (by rw [List.append_nil]; exact w)
    rw [List.append_nil] at m2
    exact ⟨a, vs, e, m1.trans h, m2, z, Reps.mono s ds vs r⟩
  | p, q, .ll ts, v, m, ⟨a, vs, e, h, w, z, r⟩ => by
    obtain ⟨m1, m2⟩ := m a [] (by rw [List.append_nil]; exact w)
    rw [List.append_nil] at m2
    exact ⟨a, vs, e, m1.trans h, m2, z, Owns.move s p q 0 ts vs m r⟩
  | p, q, .tt ts, v, m, ⟨a, vs, e, h, w, z, r⟩ => by
    obtain ⟨m1, m2⟩ := m a [] (by rw [List.append_nil]; exact w)
    rw [List.append_nil] at m2
    exact ⟨a, vs, e, m1.trans h, m2, z, Owns.move s p q 0 ts vs m r⟩
  | p, q, .dc false l, v, m, ⟨a, kvs, e, w, h, r⟩ => by
    obtain ⟨m1, m2⟩ := m a [] (by rw [List.append_nil]; exact w)
    rw [List.append_nil] at m2
    exact ⟨a, kvs, e, m2, m1.trans h, RepK.mono s l kvs r⟩
  | p, q, .dc true l, v, m, ⟨a, ep, xs, e, w, h, g, r⟩ => by
    obtain ⟨m1, m2⟩ := m a [] (by rw [List.append_nil]; exact w)
    rw [List.append_nil] at m2
    exact ⟨a, ep, xs, e, m2, m1.trans h, g, RepX.mono s l xs r⟩
  | p, q, .nx ep xs l, v, m, ⟨a, e, h, g, r⟩ => ⟨a, e, s _ _ h, g, RepX.mono s l xs r⟩
  | p, q, .lf l, v, m, ⟨a, kvs, e, w, h, g, r⟩ => by
    obtain ⟨m1, m2⟩ := m a [] (by rw [List.append_nil]; exact w)
    rw [List.append_nil] at m2
    exact ⟨a, kvs, e, m2, m1.trans h, g, RepL.mono s l kvs r⟩
  | p, q, .no ep xs l, v, m, ⟨a, e, w, h, g, r⟩ => by
    obtain ⟨m1, m2⟩ := m a [] (by rw [List.append_nil]; exact w)
    rw [List.append_nil] at m2
    exact ⟨a, e, m2, m1.trans h, g, RepX.mono s l xs r⟩
  | p, q, .dl ks ts, v, m, ⟨a, kvs, e, w, h, ek, r⟩ => by
    obtain ⟨m1, m2⟩ := m a [] (by rw [List.append_nil]; exact w)
    rw [List.append_nil] at m2
    exact ⟨a, kvs, e, m2, m1.trans h, ek, Owns.move s p q 0 ts _ m r⟩
  | p, q, .ob k ks ts, v, m, ⟨a, dx, fs, e, w, h, ek, r⟩ => by
    obtain ⟨m1, m2⟩ := m a [] (by rw [List.append_nil]; exact w)
    rw [List.append_nil] at m2
    exact ⟨a, dx, fs, e, m2, m1.trans h, ek, Owns.move s p q 0 ts _ m r⟩
  | _, _, .hole _, _, _, h => h
theorem Owns.move {G G' H H' : Hp} {ω ω' : Addr → Option Lab} (s : Same G G') : ∀ (p q : Lab) (i : Nat) (ts : List T) (vs : List V), (∀ a x, ω a = some (p ++ x) → H' a = H a ∧ ω' a = some (q ++ x)) → Owns G H ω p i ts vs → Owns G' H' ω' q i ts vs
  | _, _, _, [], _, _, h => h
  | p, q, i, t :: ts, _, m, ⟨v, r, e, h, k⟩ => ⟨v, r, e, Own.move s (p ++ [i]) (q ++ [i]) t v (fun a x e => by
      rw [List.append_assoc] at e ⊢
      exact m a _ e) h, Owns.move s p q (i + 1) ts r m k⟩
end
mutual
def T.er : T → D
  | .f x => x
  | .l ds => .lst ds
  | .ll ts => .lst (T.ers ts)
  | .tt ts => .tup (T.ers ts)
  | .dc k kvs => .dct k kvs
  | .dl ks ts => .dct false (ks.zip (T.ers ts))
  | .nx _ _ kvs => .dct true kvs
  | .no _ _ kvs => .dct true kvs
  | .ob _ _ _ => .opq none
  | .lf _ => .opq none
  | .hole w => .opq (some w)
def T.ers : List T → List D
  | [] => []
  | t :: ts => T.er t :: T.ers ts
end
theorem ers_eq : ∀ ts : List T, T.ers ts = ts.map T.er
  | [] => rfl
  | t :: ts => by rw [List.map_cons, ← ers_eq ts]; rfl
theorem ers_len (ts : List T) : (T.ers ts).length = ts.length := by rw [ers_eq, List.length_map]
/-! what is told, in a heap that has both -/
mutual
theorem Own.rep {G G' H : Hp} {ω : Addr → Option Lab} (s : Same G G') : ∀ (p : Lab) (t : T) (v : V), (∀ a x, ω a = some (p ++ x) → ∀ o, H a = some o → G' a = some o) → Own G H ω p t v → Rep G' t.er v
  | _, .f d, v, _, h => Rep.mono s d v h
  | p, .l ds, v, m, ⟨a, vs, e, h, w, z, r⟩ => ⟨a, vs, e, .inl (m a [] (by rw [List.append_nil]; exact w) _ h), z, Reps.mono s ds vs r⟩
  | p, .ll ts, v, m, ⟨a, vs, e, h, w, z, r⟩ => ⟨a, vs, e, .inl (m a [] (by rw [List.append_nil]; exact w) _ h), (Nat.le_trans (Nat.le_of_eq (ers_len ts)) z), Owns.rep s p 0 ts vs m r⟩
  | p, .tt ts, v, m, ⟨a, vs, e, h, w, z, r⟩ => ⟨a, vs, e, m a [] (by rw [List.append_nil]; exact w) _ h, (Nat.le_trans (Nat.le_of_eq (ers_len ts)) z), Owns.rep s p 0 ts vs m r⟩
  | p, .dc false l, v, m, ⟨a, kvs, e, w, h, r⟩ => ⟨a, kvs, e, .inl (m a [] (by rw [List.append_nil]; exact w) _ h), RepK.mono s l kvs r⟩
  | p, .dc true l, v, m, ⟨a, ep, xs, e, w, h, g, r⟩ => ⟨a, ep, xs, e, m a [] (by rw [List.append_nil]; exact w) _ h, g, RepX.mono s l xs r⟩
  | p, .nx ep xs l, v, m, ⟨a, e, h, g, r⟩ => ⟨a, ep, xs, e, s _ _ h, g, RepX.mono s l xs r⟩
  | p, .no ep xs l, v, m, ⟨a, e, w, h, g, r⟩ => ⟨a, ep, xs, e, m a [] (by rw [List.append_nil]; exact w) _ h, g, RepX.mono s l xs r⟩
  | p, .dl ks ts, v, m, ⟨a, kvs, e, w, h, ek, r⟩ => ⟨a, kvs, e, .inl (m a [] (by rw [List.append_nil]; exact w) _ h), by rw [ek]; exact RepK.ofZip kvs _ (Owns.rep s p 0 ts _ m r)⟩
  | p, .ob k ks ts, v, m, _ => fun u e => by cases e
  | p, .lf l, v, m, _ => fun u e => by cases e
  | _, .hole w, v, _, h => fun u e => by cases e; exact h
theorem Owns.rep {G G' H : Hp} {ω : Addr → Option Lab} (s : Same G G') : ∀ (p : Lab) (i : Nat) (ts : List T) (vs : List V), (∀ a x, ω a = some (p ++ x) → ∀ o, H a = some o → G' a = some o) → Owns G H ω p i ts vs → Reps G' (T.ers ts) vs
  | _, _, [], _, _, h => h
  | p, i, t :: ts, _, m, ⟨v, r, e, h, k⟩ => ⟨v, r, e, Own.rep s (p ++ [i]) t v (fun a x e => by
      rw [List.append_assoc] at e
      exact m a _ e) h, Owns.rep s p (i + 1) ts r m k⟩
end
end VL

namespace VL
open PySem L2
variable [EC]

/-- a def's frame: what stood at its entry -/
structure Fc where
  K : PySem.W.Frag
  G0 : Hp
  H0 : Hp
  w0 : Addr → Option Lab
  E : XK
  ec : Nat → Addr
  pv : Nat → Option V
inductive TM where
  | own (t : T) | ali (i : Nat)
abbrev State := List (Option T)
abbrev Tmp := List (V × TM)
def TmOk (G H : Hp) (ω : Addr → Option Lab) (σ : St) (p : Lab) : TM → V → Prop
  | .own t, v => Own G H ω p t v
  | .ali i, v => σ[i]? = some (some v)
def Tms (G H : Hp) (ω : Addr → Option Lab) (σ : St) : Tmp → Prop
  | [] => True
  | x :: r => TmOk G H ω σ [1, r.length] x.2 x.1 ∧ Tms G H ω σ r
structure Hd (F : Fc) (G : Hp) (ω : Addr → Option Lab) (tmp : Tmp) (s : State) (σ : St) (H : Hp) : Prop where
  g0 : Same F.G0 G
  gH : Same G H
  gn : ∀ a o, G a = some o → F.G0 a = some o ∨ F.H0 a = none ∨ (F.w0 a).isSome = true
  fr : ∀ a o, F.H0 a = some o → F.w0 a = none → H a = some o
  ex : ∀ a o, F.H0 a = some o → ∃ o', H a = some o'
  wg : ∀ a p, ω a = some p → G a = none ∧ (∃ o, H a = some o) ∧ (F.H0 a = none ∨ (F.w0 a).isSome = true)
  len : σ.length = s.length
  sl : ∀ i t, s[i]? = some (some t) → ∃ v, σ[i]? = some (some v) ∧ Own G H ω [0, i] t v
  tm : Tms G H ω σ tmp
  pn : ∀ k v, F.pv k = some v → σ[k]? = some (some v)
def Holds (F : Fc) (tmp : Tmp) (s : State) (σ : St) (H : Hp) : Prop := ∃ G ω, Hd F G ω tmp s σ H

/-- temporaries stay where their labels' objects stay -/
theorem Tms.move {G G' H H' : Hp} {ω ω' : Addr → Option Lab} {σ : St} (s : Same G G') : ∀ (tmp : Tmp), (∀ j a x, j < tmp.length → ω a = some ([1, j] ++ x) → H' a = H a ∧ ω' a = some ([1, j] ++ x)) →
    Tms G H ω σ tmp → Tms G' H' ω' σ tmp
  | [], _, _ => trivial
  | x :: r, m, ⟨a, b⟩ => by
    refine ⟨?_, Tms.move s r (fun j a x hj e => m j a x (Nat.lt_succ_of_lt hj) e) b⟩
    obtain ⟨v, tm⟩ := x
    cases tm with
    | own t => exact Own.move s _ _ t v (fun a x e => m _ a x (Nat.lt_succ_self _) e) a
    | ali i => exact a
section
variable {F : Fc} {G H H' : Hp} {ω : Addr → Option Lab} {tmp : Tmp} {s : State} {σ : St} {v : V} {t : T} {d : D}
theorem Hd.new (h : Hd F G ω tmp s σ H) {p : Addr} (n : H p = none) : F.H0 p = none := by
  cases e : F.H0 p with
  | none => rfl
  | some o =>
    obtain ⟨o', e'⟩ := h.ex p o e
    rw [n] at e'; cases e'
theorem Hd.gfree (h : Hd F G ω tmp s σ H) {p : Addr} (n : H p = none) : G p = none := by
  cases e : G p with
  | none => rfl
  | some o => rw [h.gH p o e] at n; cases n
theorem Hd.pop (h : Hd F G ω (x :: tmp) s σ H) : Hd F G ω tmp s σ H := { h with tm := h.tm.2 }
theorem Holds.pop {x : V × TM} (h : Holds F (x :: tmp) s σ H) : Holds F tmp s σ H := let ⟨G, ω, q⟩ := h; ⟨G, ω, q.pop⟩
theorem Holds.len (h : Holds F tmp s σ H) : σ.length = s.length := let ⟨_, _, q⟩ := h; q.len
/-- a frozen temporary on top -/
theorem Hd.pushF (h : Hd F G ω tmp s σ H) (r : Rep G d v) : Hd F G ω ((v, .own (.f d)) :: tmp) s σ H := { h with tm := ⟨r, h.tm⟩ }
theorem Hd.topF (h : Hd F G ω ((v, .own (.f d)) :: tmp) s σ H) : Rep G d v := h.tm.1
theorem upd_keep {p a : Addr} {o u : HO} (n : H p = none) (e : H a = some o) : upd H p u a = some o := by rw [upd_ne (ne_of_none e n)]; exact e
/-- a new object, frozen -/
theorem Hd.newG (h : Hd F G ω tmp s σ H) {p : Addr} {o : HO} (n : H p = none) : Hd F (upd G p o) ω tmp s σ (upd H p o) := by
  have gn := h.gfree n
  have sG : Same G (upd G p o) := fun a u e => upd_keep gn e
  have keep : ∀ a q, ω a = some q → upd H p o a = H a := fun a q e => by
    obtain ⟨_, ⟨u, e'⟩, _⟩ := h.wg a q e
    exact upd_ne (ne_of_none e' n)
  refine ⟨h.g0.trans sG, fun a u e => ?_, fun a u e => ?_, fun a u e w => upd_keep n (h.fr a u e w), fun a u e => ?_, fun a q e => ?_, h.len, fun i t e => ?_, Tms.move sG tmp (fun j a x _ e => ⟨keep a _ e, e⟩) h.tm, h.pn⟩
  · by_cases ha : a = p
    · subst ha; rw [upd_same] at e ⊢; exact e
    · rw [upd_ne ha] at e ⊢; exact h.gH a u e
  · by_cases ha : a = p
    · subst ha; exact .inr (.inl (h.new n))
    · rw [upd_ne ha] at e; exact h.gn a u e
  · obtain ⟨o', e'⟩ := h.ex a u e
    exact ⟨o', upd_keep n e'⟩
  · obtain ⟨q1, ⟨u, q2⟩, q3⟩ := h.wg a q e
    refine ⟨?_, ⟨u, upd_keep n q2⟩, q3⟩
    rw [upd_ne (ne_of_none q2 n)]; exact q1
  · obtain ⟨v, e1, e2⟩ := h.sl i t e
    exact ⟨v, e1, Own.move sG _ _ t v (fun a x e => ⟨keep a _ e, e⟩) e2⟩
/-- a new object, owned by a new temporary -/
theorem Hd.newO (h : Hd F G ω tmp s σ H) {p : Addr} {o : HO} (n : H p = none) (q : Own G (upd H p o) (fun a => if a = p then some [1, tmp.length] else ω a) [1, tmp.length] t (.ref p)) :
    Hd F G (fun a => if a = p then some [1, tmp.length] else ω a) ((.ref p, .own t) :: tmp) s σ (upd H p o) := by
  have keep : ∀ a q, ω a = some q → upd H p o a = H a ∧ (if a = p then some [1, tmp.length] else ω a) = some q := fun a q e => by
    obtain ⟨_, ⟨u, e'⟩, _⟩ := h.wg a q e
    have ne := ne_of_none e' n
    exact ⟨upd_ne ne, by rw [if_neg ne]; exact e⟩
  refine ⟨h.g0, fun a u e => upd_keep n (h.gH a u e), h.gn, fun a u e w => upd_keep n (h.fr a u e w), fun a u e => ?_, fun a q e => ?_, h.len, fun i t e => ?_, ⟨q, Tms.move (Same.refl _) tmp (fun j a x _ e => keep a _ e) h.tm⟩, h.pn⟩
  · obtain ⟨o', e'⟩ := h.ex a u e
    exact ⟨o', upd_keep n e'⟩
  · by_cases ha : a = p
    · subst ha; exact ⟨h.gfree n, ⟨o, upd_same⟩, .inl (h.new n)⟩
    · simp only [if_neg ha] at e
      obtain ⟨q1, ⟨u, q2⟩, q3⟩ := h.wg a q e
      exact ⟨q1, ⟨u, upd_keep n q2⟩, q3⟩
  · obtain ⟨v, e1, e2⟩ := h.sl i t e
    exact ⟨v, e1, Own.move (Same.refl _) _ _ t v (fun a x e => keep a _ e) e2⟩
theorem Hd.newL (h : Hd F G ω tmp s σ H) {p : Addr} {ds : List D} {vs : List V} (n : H p = none) (z : ds.length ≤ sizeLine) (r : Reps G ds vs) : Holds F ((.ref p, .own (.l ds)) :: tmp) s σ (upd H p (.lst vs)) :=
  ⟨G, _, h.newO n ⟨p, vs, rfl, upd_same, by simp, z, r⟩⟩
theorem Hd.newT (h : Hd F G ω tmp s σ H) {p : Addr} {ds : List D} {vs : List V} (n : H p = none) (z : ds.length ≤ sizeLine) (r : Reps G ds vs) : Holds F ((.ref p, .own (.f (.tup ds))) :: tmp) s σ (upd H p (.tup vs)) :=
  ⟨_, ω, (h.newG n).pushF ⟨p, vs, rfl, upd_same, z, Reps.mono (fun a u e => upd_keep (h.gfree n) e) _ _ r⟩⟩

/-! freezing -/
def pre : Lab → Lab → Bool
  | [], _ => true
  | _ :: _, [] => false
  | a :: p, b :: q => a == b && pre p q
theorem pre_app : ∀ (p x : Lab), pre p (p ++ x) = true
  | [], _ => rfl
  | a :: p, x => by simp [pre, pre_app p x]
/-- label p is frozen -/
def frzG (G H : Hp) (ω : Addr → Option Lab) (p : Lab) : Hp := fun a => match ω a with
  | some q => if pre p q = true then H a else G a
  | none => G a
def frzW (ω : Addr → Option Lab) (p : Lab) : Addr → Option Lab := fun a => match ω a with
  | some q => if pre p q = true then none else some q
  | none => none
theorem frzW_some {p q : Lab} {a : Addr} (e : frzW ω p a = some q) : ω a = some q ∧ pre p q = false := by
  unfold frzW at e
  split at e
  · rename_i r hr
    split at e
    · cases e
    · cases e; rename_i hn; exact ⟨hr, Bool.eq_false_iff.mpr hn⟩
  · cases e
theorem frzW_of {p q : Lab} {a : Addr} (e : ω a = some q) (n : pre p q = false) : frzW ω p a = some q := by
  unfold frzW; rw [e]; simp [n]
theorem frzG_same (h : Hd F G ω tmp s σ H) (p : Lab) : Same G (frzG G H ω p) := fun a o e => by
  unfold frzG
  split
  · rename_i q hq
    have := (h.wg a q hq).1
    rw [e] at this; cases this
  · exact e
theorem frzG_in {p q : Lab} {a : Addr} (e : ω a = some q) (n : pre p q = true) : frzG G H ω p a = H a := by
  unfold frzG; rw [e]; simp [n]
/-- everything but the slots and temporaries -/
theorem Hd.frz (h : Hd F G ω tmp s σ H) (p : Lab) (s' : State) (σ' : St) (tmp' : Tmp) (hl : σ'.length = s'.length)
    (hs : ∀ i t, s'[i]? = some (some t) → ∃ v, σ'[i]? = some (some v) ∧ Own (frzG G H ω p) H (frzW ω p) [0, i] t v) (ht : Tms (frzG G H ω p) H (frzW ω p) σ' tmp') (hp : ∀ k v, F.pv k = some v → σ'[k]? = some (some v)) : Hd F (frzG G H ω p) (frzW ω p) tmp' s' σ' H := by
  have sG := frzG_same h p
  refine ⟨h.g0.trans sG, fun a o e => ?_, fun a o e => ?_, h.fr, h.ex, fun a q e => ?_, hl, hs, ht, hp⟩
  · unfold frzG at e
    split at e
    · split at e
      · exact e
      · exact h.gH a o e
    · exact h.gH a o e
  · unfold frzG at e
    split at e
    · rename_i q hq
      split at e
      · exact .inr (h.wg a q hq).2.2
      · exact h.gn a o e
    · exact h.gn a o e
  · obtain ⟨e1, e2⟩ := frzW_some e
    obtain ⟨q1, q2, q3⟩ := h.wg a q e1
    refine ⟨?_, q2, q3⟩
    unfold frzG; rw [e1]; simp [e2, q1]
theorem Own.frzOther {p q : Lab} (sG : Same G (frzG G H ω p)) (hpq : ∀ x, pre p (q ++ x) = false) (h : Own G H ω q t v) : Own (frzG G H ω p) H (frzW ω p) q t v :=
  Own.move sG q q t v (fun a x e => ⟨rfl, frzW_of e (hpq x)⟩) h
theorem Own.frzRep {p : Lab} (sG : Same G (frzG G H ω p)) (h : Own G H ω p t v) : Rep (frzG G H ω p) t.er v :=
  Own.rep sG p t v (fun a x e o ho => by rw [frzG_in e (pre_app p x)]; exact ho) h
theorem Tms.frzOther {p : Lab} (sG : Same G (frzG G H ω p)) (tmp : Tmp) (hp : ∀ j x, j < tmp.length → pre p ([1, j] ++ x) = false) (h : Tms G H ω σ tmp) : Tms (frzG G H ω p) H (frzW ω p) σ tmp :=
  Tms.move sG tmp (fun j a x hj e => ⟨rfl, frzW_of e (hp j x hj)⟩) h
/-- the top temporary is frozen -/
theorem Holds.frzTop (h : Holds F ((v, .own t) :: tmp) s σ H) : Holds F ((v, .own (.f t.er)) :: tmp) s σ H := by
  obtain ⟨G, ω, h⟩ := h
  have sG := frzG_same h [1, tmp.length]
  refine ⟨_, _, h.frz [1, tmp.length] s σ _ h.len (fun i u e => ?_) ⟨Own.frzRep sG h.tm.1, Tms.frzOther sG tmp (fun j x hj => ?_) h.tm.2⟩ h.pn⟩
  · obtain ⟨v', e1, e2⟩ := h.sl i u e
    exact ⟨v', e1, Own.frzOther sG (fun x => by simp [pre]) e2⟩
  · have : tmp.length ≠ j := by omega
    simp [pre, this]
/-- a slot is frozen -/
theorem Holds.frzSlot (h : Holds F tmp s σ H) {i : Nat} (hi : s[i]? = some (some t)) : Holds F tmp (s.set i (some (.f t.er))) σ H := by
  obtain ⟨G, ω, h⟩ := h
  have sG := frzG_same h [0, i]
  refine ⟨_, _, h.frz [0, i] _ σ _ (by simp [h.len]) (fun j u e => ?_) (Tms.frzOther sG tmp (fun j x hj => by simp [pre]) h.tm) h.pn⟩
  rw [List.getElem?_set] at e
  split at e
  · rename_i hj
    subst hj
    split at e
    · cases e
      obtain ⟨v', e1, e2⟩ := h.sl i t hi
      exact ⟨v', e1, Own.frzRep sG e2⟩
    · cases e
  · rename_i hj
    obtain ⟨v', e1, e2⟩ := h.sl j u e
    exact ⟨v', e1, Own.frzOther sG (fun x => by simp [pre, hj]) e2⟩
end
end VL

namespace VL
open PySem L2
variable [EC]

/-! relabelling, storing -/
def rl (ω : Addr → Option Lab) (φ : Lab → Option Lab) : Addr → Option Lab := fun a => (ω a).bind φ
theorem rl_some {ω : Addr → Option Lab} {φ : Lab → Option Lab} {a : Addr} {q : Lab} (h : rl ω φ a = some q) : ∃ p, ω a = some p ∧ φ p = some q := by
  unfold rl at h
  cases e : ω a with
  | none => rw [e] at h; cases h
  | some p => rw [e] at h; exact ⟨p, rfl, h⟩
theorem rl_of {ω : Addr → Option Lab} {φ : Lab → Option Lab} {a : Addr} {p q : Lab} (h : ω a = some p) (h2 : φ p = some q) : rl ω φ a = some q := by
  unfold rl; rw [h]; exact h2
section
variable {F : Fc} {G H H' : Hp} {ω : Addr → Option Lab} {tmp : Tmp} {s : State} {σ : St} {v : V} {t : T} {d : D}
theorem Hd.rl (h : Hd F G ω tmp s σ H) (φ : Lab → Option Lab) (s' : State) (σ' : St) (tmp' : Tmp) (hl : σ'.length = s'.length)
    (hs : ∀ i t, s'[i]? = some (some t) → ∃ v, σ'[i]? = some (some v) ∧ Own G H (VL.rl ω φ) [0, i] t v) (ht : Tms G H (VL.rl ω φ) σ' tmp') (hp : ∀ k v, F.pv k = some v → σ'[k]? = some (some v)) : Hd F G (VL.rl ω φ) tmp' s' σ' H :=
  ⟨h.g0, h.gH, h.gn, h.fr, h.ex, fun a q e => by
    obtain ⟨p, e1, _⟩ := rl_some e
    exact h.wg a p e1, hl, hs, ht, hp⟩
theorem Own.rl {φ : Lab → Option Lab} {p q : Lab} (h : Own G H ω p t v) (e : ∀ x, φ (p ++ x) = some (q ++ x)) : Own G H (VL.rl ω φ) q t v :=
  Own.move (Same.refl G) p q t v (fun a x w => ⟨rfl, rl_of w (e x)⟩) h
theorem Tms.rl {φ : Lab → Option Lab} (tmp : Tmp) (e : ∀ j x, j < tmp.length → φ ([1, j] ++ x) = some ([1, j] ++ x)) (h : Tms G H ω σ tmp) : Tms G H (VL.rl ω φ) σ tmp :=
  Tms.move (Same.refl G) tmp (fun j a x hj w => ⟨rfl, rl_of w (e j x hj)⟩) h
/-- no temporary speaks of slot i -/
def noAli (i : Nat) : Tmp → Bool
  | [] => true
  | (_, .own _) :: r => noAli i r
  | (_, .ali j) :: r => (j != i) && noAli i r
theorem Tms.slots {σ' : St} : ∀ (tmp : Tmp), (∀ i, noAli i tmp = false → σ'[i]? = σ[i]?) → Tms G H ω σ tmp → Tms G H ω σ' tmp
  | [], _, _ => trivial
  | (v, .own t) :: r, m, ⟨a, b⟩ => ⟨a, Tms.slots r (fun i h => m i h) b⟩
  | (v, .ali j) :: r, m, ⟨a, b⟩ => ⟨(m j (by simp [noAli])).trans a, Tms.slots r (fun i h => m i (by simp [noAli, h])) b⟩
def phiSt (n i : Nat) : Lab → Option Lab
  | 1 :: j :: x => if j = n then some (0 :: i :: x) else some (1 :: j :: x)
  | 0 :: j :: x => if j = i then none else some (0 :: j :: x)
  | l => some l
/-- the top temporary goes into slot i -/
theorem Holds.store (h : Holds F ((v, .own t) :: tmp) s σ H) {i : Nat} (hi : i < s.length) (na : noAli i tmp = true) (hp : F.pv i = none) : Holds F tmp (s.set i (some t)) (σ.set i (some v)) H := by
  obtain ⟨G, ω, h⟩ := h
  refine ⟨G, _, h.rl (phiSt tmp.length i) _ _ _ (by simp [h.len]) (fun j u e => ?_) ?_ fun k u e => ?_⟩
  · rw [List.getElem?_set] at e
    by_cases hj : i = j
    · subst hj
      rw [if_pos rfl, if_pos hi] at e
      cases e
      refine ⟨v, by rw [List.getElem?_set_self (by rw [h.len]; exact hi)], Own.rl h.tm.1 fun x => by simp [phiSt]⟩
    · rw [if_neg hj] at e
      obtain ⟨v', e1, e2⟩ := h.sl j u e
      have hj' : ¬ j = i := fun z => hj z.symm
      exact ⟨v', by rw [List.getElem?_set_ne hj]; exact e1, Own.rl e2 fun x => by simp [phiSt, hj']⟩
  · refine Tms.slots tmp (fun j hj => ?_) (Tms.rl tmp (fun j x hj => ?_) h.tm.2)
    · have : i ≠ j := fun e => by subst e; rw [na] at hj; cases hj
      rw [List.getElem?_set_ne this]
    · have : ¬ j = tmp.length := by omega
      simp [phiSt, this]
  · have : i ≠ k := fun z => by subst z; rw [hp] at e; cases e
    rw [List.getElem?_set_ne this]
    exact h.pn k u e
/-- less is known -/
def Sub : State → State → Prop
  | [], [] => True
  | a :: r, b :: q => (b = none ∨ a = b) ∧ Sub r q
  | _, _ => False
theorem Sub.refl : ∀ s : State, Sub s s
  | [] => trivial
  | _ :: r => ⟨.inr rfl, Sub.refl r⟩
theorem Sub.len : ∀ {s q : State}, Sub s q → s.length = q.length
  | [], [], _ => rfl
  | _ :: r, _ :: q, h => by simp [Sub.len h.2]
theorem Sub.get : ∀ {s q : State} {i : Nat} {t : T}, Sub s q → q[i]? = some (some t) → s[i]? = some (some t)
  | [], [], _, _, _, e => by simp at e
  | a :: r, b :: q, 0, t, ⟨h, _⟩, e => by
    simp at e
    rcases h with h | h
    · rw [h] at e; cases e
    · simp [h, e]
  | a :: r, b :: q, i + 1, t, ⟨_, h⟩, e => by
    have := Sub.get (i := i) h (by simpa using e)
    simpa using this
theorem Holds.sub (h : Holds F tmp s σ H) {s' : State} (q : Sub s s') : Holds F tmp s' σ H :=
  let ⟨G, ω, h⟩ := h
  ⟨G, ω, { h with len := h.len.trans q.len, sl := fun i t e => h.sl i t (q.get e) }⟩
def phiRet (n : Nat) : Lab → Option Lab
  | 1 :: j :: x => if j = n then some (1 :: 0 :: x) else none
  | l => some l
/-- the top temporary alone -/
theorem Holds.alone (h : Holds F ((v, .own t) :: tmp) s σ H) : Holds F [(v, .own t)] s σ H := by
  obtain ⟨G, ω, h⟩ := h
  refine ⟨G, _, h.rl (phiRet tmp.length) s σ _ h.len (fun j u e => ?_) ⟨?_, trivial⟩ h.pn⟩
  · obtain ⟨v', e1, e2⟩ := h.sl j u e
    exact ⟨v', e1, Own.rl e2 fun x => by simp [phiRet]⟩
  · exact Own.rl h.tm.1 fun x => by simp [phiRet]
end

/-! the readings -/
def ErrP (F : Fc) (e : Ex) (od : Option Addr) (H' : Hp) : Prop :=
  ∃ G', Same F.G0 G' ∧ Same G' H' ∧ (∀ a o, G' a = some o → F.G0 a = some o ∨ F.H0 a = none ∨ (F.w0 a).isSome = true) ∧ (∀ a o, F.H0 a = some o → F.w0 a = none → H' a = some o) ∧
    (∀ a o, F.H0 a = some o → ∃ o', H' a = some o') ∧
    (match e.a with | none => od = none | some d => ∃ dx v, od = some dx ∧ F.H0 dx = none ∧ G' dx = some (.xd [("at", v)]) ∧ Rep G' d v)
def EOk {R : Type} (F : Fc) (m : Res R) : Prop := ∀ e, m = .err e → ∀ od H', ErrP F e od H' → F.E (.ref (F.ec e.k)) od H'
theorem EOk.of {R S : Type} {F : Fc} {m : Res R} {m' : Res S} (h : EOk F m) (q : ∀ e, m' = .err e → m = .err e) : EOk F m' := fun e he => h e (q e he)
abbrev Rs (R : Type) := TM → State → Res R → Prop
def RD {R : Type} (F : Fc) (tmp : Tmp) (s : State) (t : TE) (m : Res R) (K : Rs R) : Prop :=
  ∀ σ H Q, Holds F tmp s σ H → m ≠ .fail → EOk F m → (∀ tm s' v H', K tm s' m → Holds F ((v, tm) :: tmp) s' σ H' → Q v H') → t σ H Q
end VL

namespace VL
open PySem L2
variable [EC]

def pushes : List V → List TM → Tmp → Tmp
  | v :: vs, t :: ts, tmp => pushes vs ts ((v, t) :: tmp)
  | _, _, tmp => tmp
abbrev Rn (R : Type) := State → Res R → Prop
abbrev Rr (R : Type) := T → State → Res R → Prop
section
variable {R : Type} (F : Fc) (tmp : Tmp) (s : State) (m : Res R)
def RT (t : TT) (K : Bool → State → Res R → Prop) : Prop :=
  ∀ σ H Q, Holds F tmp s σ H → m ≠ .fail → EOk F m → (∀ b s' H', K b s' m → Holds F tmp s' σ H' → Q b H') → t σ H Q
def RA (t : TA) (K : List TM → State → Res R → Prop) : Prop :=
  ∀ σ H Q, Holds F tmp s σ H → m ≠ .fail → EOk F m → (∀ tms s' vs H', K tms s' m → vs.length = tms.length → Holds F (pushes vs tms tmp) s' σ H' → Q vs H') → t σ H Q
def RS (t : TS) (N : Rn R) (Rt : Rr R) : Prop :=
  ∀ σ H D, Holds F tmp s σ H → m ≠ .fail → EOk F m → (∀ s' σ' H', N s' m → Holds F tmp s' σ' H' → D.nx σ' H') → (∀ t s' v σ' H', Rt t s' m → Holds F [(v, .own t)] s' σ' H' → D.rt v H') → t D σ H
end
section
variable {R : Type} {F : Fc} {tmp : Tmp} {s : State} {m : Res R} {K : Rs R} {N : Rn R} {Rt : Rr R}

/-! names, constants -/
theorem rd_var {i : Nat} {d : D} (h : s[i]? = some (some (.f d))) (k : K (.own (.f d)) s m) : RD F tmp s (tVar i) m K := fun σ H Q hh _ _ q => by
  obtain ⟨G, ω, h1⟩ := hh
  obtain ⟨v, e, o⟩ := h1.sl i _ h
  exact ⟨v, e, q _ _ v H k ⟨G, ω, h1.pushF o⟩⟩
/-- a slot as it lies -/
theorem rd_ali {i : Nat} {t : T} (h : s[i]? = some (some t)) (k : K (.ali i) s m) : RD F tmp s (tVar i) m K := fun σ H Q hh _ _ q => by
  obtain ⟨G, ω, h1⟩ := hh
  obtain ⟨v, e, o⟩ := h1.sl i _ h
  exact ⟨v, e, q _ _ v H k ⟨G, ω, { h1 with tm := ⟨e, h1.tm⟩ }⟩⟩
/-- an owned slot, frozen from here on -/
theorem rd_frz {i : Nat} {t : T} (h : s[i]? = some (some t)) (k : K (.own (.f t.er)) (s.set i (some (.f t.er))) m) : RD F tmp s (tVar i) m K := fun σ H Q hh _ _ q => by
  have h2 := hh.frzSlot h
  obtain ⟨G, ω, h1⟩ := h2
  have hi : i < s.length := (List.getElem?_eq_some_iff.mp h).1
  obtain ⟨v, e, o⟩ := h1.sl i (.f t.er) (by rw [List.getElem?_set_self hi])
  exact ⟨v, e, q _ _ v H k ⟨G, ω, h1.pushF o⟩⟩
def phiMv (n i : Nat) : Lab → Option Lab
  | 0 :: j :: x => if j = i then some (1 :: n :: x) else some (0 :: j :: x)
  | 1 :: j :: x => if j = n then none else some (1 :: j :: x)
  | l => some l
/-- an owned slot, moved out -/
theorem rd_mv {i : Nat} {t : T} (h : s[i]? = some (some t)) (k : K (.own t) (s.set i none) m) : RD F tmp s (tVar i) m K := fun σ H Q hh _ _ q => by
  obtain ⟨G, ω, h1⟩ := hh
  obtain ⟨v, e, o⟩ := h1.sl i _ h
  refine ⟨v, e, q _ _ v H k ⟨G, _, h1.rl (phiMv tmp.length i) _ σ _ (by simp [h1.len]) (fun j u e2 => ?_) ⟨Own.rl o fun x => by simp [phiMv], Tms.rl tmp (fun j x hj => ?_) h1.tm⟩ h1.pn⟩⟩
  · rw [List.getElem?_set] at e2
    by_cases hj : i = j
    · subst hj
      rw [if_pos rfl] at e2
      split at e2 <;> cases e2
    · rw [if_neg hj] at e2
      obtain ⟨v', a, b⟩ := h1.sl j u e2
      have hj' : ¬ j = i := fun z => hj z.symm
      exact ⟨v', a, Own.rl b fun x => by simp [phiMv, hj']⟩
  · have : ¬ j = tmp.length := by omega
    simp [phiMv, this]
theorem holds_push {σ : St} {H : Hp} {d : D} {v : V} (h : Holds F tmp s σ H) (r : ∀ G, Rep G d v) : Holds F ((v, .own (.f d)) :: tmp) s σ H :=
  let ⟨G, ω, h1⟩ := h
  ⟨G, ω, h1.pushF (r G)⟩
theorem rd_int {i : Int} (k : K (.own (.f (.int i))) s m) : RD F tmp s (tC (.int i)) m K := fun σ H Q hh _ _ q => q _ _ _ H k (holds_push hh fun _ => rfl)
theorem rd_bl {b : Bool} (k : K (.own (.f (.bl b))) s m) : RD F tmp s (tC (.bl b)) m K := fun σ H Q hh _ _ q => q _ _ _ H k (holds_push hh fun _ => rfl)
theorem rd_non (k : K (.own (.f .non)) s m) : RD F tmp s (tC .non) m K := fun σ H Q hh _ _ q => q _ _ _ H k (holds_push hh fun _ => rfl)
theorem rd_str {x : Str} {l : List Nat} (e : x = mkS l) (k : K (.own (.f (.str l))) s m) : RD F tmp s (tC (.str x)) m K := fun σ H Q hh _ _ q => q _ _ _ H k (holds_push hh fun _ => congrArg V.str e)

/-! blocks -/
theorem rs_seq {t u : TS} (h : RS F tmp s m t (fun s1 m1 => RS F tmp s1 m1 u N Rt) Rt) : RS F tmp s m (tSeq t u) N Rt := fun σ H D hh nf eo nx rt =>
  h σ H { D with nx := u D } hh nf eo (fun s' σ' H' hn h1 => hn σ' H' D h1 nf eo nx rt) rt
theorem rs_next (k : N s m) : RS F tmp s m tNext N Rt := fun σ H D hh _ _ nx _ => nx s σ H k hh
theorem rs_set {te : TE} {i : Nat} (h : RD F tmp s te m (fun tm s1 m1 => ∃ t, tm = .own t ∧ i < s1.length ∧ N (s1.set i (some t)) m1)) (na : noAli i tmp = true) (hp : F.pv i = none) : RS F tmp s m (tAsg te (gName i)) N Rt := fun σ H D hh nf eo nx rt =>
  h σ H _ hh nf eo fun tm s' v H' ⟨t, e, hl, hn⟩ h1 => by
    subst e
    exact nx _ _ _ hn (h1.store hl na hp)
theorem rs_drop {te : TE} (h : RD F tmp s te m (fun _ s1 m1 => N s1 m1)) : RS F tmp s m (tDrop te) N Rt := fun σ H D hh nf eo nx rt =>
  h σ H _ hh nf eo fun tm s' v H' hn h1 => nx _ _ _ hn h1.pop
theorem rs_ret {te : TE} (h : RD F tmp s te m (fun tm s1 m1 => ∃ t, tm = .own t ∧ Rt t s1 m1)) : RS F tmp s m (tRet te) N Rt := fun σ H D hh nf eo nx rt =>
  h σ H _ hh nf eo fun tm s' v H' ⟨t, e, hn⟩ h1 => by
    subst e
    exact rt _ _ _ σ _ hn h1.alone
/-- an if; what follows is told twice -/
theorem rs_if {c : TT} {t u : TS} (h : RT F tmp s m c (fun b s1 m1 => ∃ ma mb, m1 = (if b = true then ma else mb) ∧ (b = true → RS F tmp s1 ma t N Rt) ∧ (b = false → RS F tmp s1 mb u N Rt))) : RS F tmp s m (tIfS c t u) N Rt := fun σ H D hh nf eo nx rt =>
  h σ H _ hh nf eo fun b s' H' ⟨ma, mb, e, ha, hb⟩ h1 => by
    cases b with
    | true => simp only [if_true] at e ⊢; subst e; exact ha rfl σ H' D h1 nf eo nx rt
    | false => simp only [Bool.false_eq_true, if_false] at e ⊢; subst e; exact hb rfl σ H' D h1 nf eo nx rt
/-! arguments -/
theorem ra_nil {K : List TM → State → Res R → Prop} (k : K [] s m) : RA F tmp s m tNil K := fun σ H Q hh _ _ q => q [] s [] H k rfl hh
theorem ra_cons {ta : TE} {tr : TA} {K : List TM → State → Res R → Prop} (h : RD F tmp s ta m (fun tm s1 m1 => ∀ v, RA F ((v, tm) :: tmp) s1 m1 tr (fun tms s2 m2 => K (tm :: tms) s2 m2))) : RA F tmp s m (tCons ta tr) K := fun σ H Q hh nf eo q =>
  h σ H _ hh nf eo fun tm s' v H' hk h1 => hk v σ H' _ h1 nf eo fun tms s2 vs H2 hk2 hl h2 => q (tm :: tms) s2 (v :: vs) H2 hk2 (by simp [hl]) h2
end
end VL

namespace VL
open PySem L2
variable [EC]

/-! calls -/
def wAfter (G : Hp) (w : Addr → Option Lab) (H : Hp) (G' : Hp) (H' : Hp) : Prop :=
  Same G G' ∧ Same G' H' ∧ (∀ a o, G' a = some o → G a = some o ∨ H a = none ∨ (w a).isSome = true) ∧ (∀ a o, H a = some o → w a = none → H' a = some o) ∧ (∀ a o, H a = some o → ∃ o', H' a = some o')
def PostOk (G : Hp) (w : Addr → Option Lab) (H : Hp) (r : T) (outs : List (Option T)) (v : V) (vs : List V) (H' : Hp) : Prop :=
  ∃ G' w', wAfter G w H G' H' ∧ (∀ a p, w' a = some p → G' a = none ∧ (∃ o, H' a = some o) ∧ (H a = none ∨ (w a).isSome = true)) ∧
    Own G' H' w' [2] r v ∧ ∀ k t, outs[k]? = some (some t) → ∃ u, vs[k]? = some u ∧ Own G' H' w' [0, k] t u
def ErrQ (G : Hp) (w : Addr → Option Lab) (H : Hp) (e : Ex) (od : Option Addr) (H' : Hp) : Prop :=
  ∃ G', wAfter G w H G' H' ∧ (match e.a with | none => od = none | some d => ∃ dx v, od = some dx ∧ H dx = none ∧ G' dx = some (.xd [("at", v)]) ∧ Rep G' d v)
def spOf {A R : Type} (ec : Nat → Addr) (ea : A → List T) (mir : A → Res R) (er : R → T) (eo : R → List (Option T)) : Sp := fun vs H Q E =>
  ∃ (a : A) (G : Hp) (w : Addr → Option Lab), Same G H ∧ (∀ x p, w x = some p → G x = none ∧ ∃ o, H x = some o) ∧ vs.length = (ea a).length ∧ (∀ k t, (ea a)[k]? = some t → ∃ u, vs[k]? = some u ∧ Own G H w [0, k] t u) ∧
    mir a ≠ .fail ∧ (∀ r v H', mir a = .ok r → PostOk G w H (er r) (eo r) v vs H' → Q v H') ∧ (∀ e od H', mir a = .err e → ErrQ G w H e od H' → E (.ref (ec e.k)) od H')

def treeAt (s : State) : TM → Option T
  | .own t => some t
  | .ali i => match s[i]? with | some x => x | none => none
def putOuts : State → List TM → List (Option T) → State
  | s, .ali i :: r, o :: q => putOuts (s.set i o) r q
  | s, .ali i :: r, [] => putOuts (s.set i none) r []
  | s, .own _ :: r, q => putOuts s r q.tail
  | s, [], _ => s
def aIdx (i : Nat) : List TM → Option Nat
  | [] => none
  | .ali j :: r => if j = i then some 0 else (aIdx i r).map (· + 1)
  | .own _ :: r => (aIdx i r).map (· + 1)
def aliNd : List TM → Bool
  | [] => true
  | .ali j :: r => (aIdx j r).isNone && aliNd r
  | .own _ :: r => aliNd r
theorem aIdx_get {i : Nat} : ∀ {tms : List TM} {k : Nat}, aIdx i tms = some k → tms[k]? = some (.ali i)
  | [], _, h => by simp [aIdx] at h
  | .ali j :: r, k, h => by
    unfold aIdx at h
    split at h
    · rename_i e; subst e; cases h; rfl
    · cases e : aIdx i r with
      | none => rw [e] at h; cases h
      | some k' => rw [e] at h; cases h; simpa using aIdx_get e
  | .own _ :: r, k, h => by
    unfold aIdx at h
    cases e : aIdx i r with
    | none => rw [e] at h; cases h
    | some k' => rw [e] at h; cases h; simpa using aIdx_get e
theorem aIdx_of {i : Nat} : ∀ {tms : List TM} {k : Nat}, aliNd tms = true → tms[k]? = some (.ali i) → aIdx i tms = some k
  | [], _, _, h => by simp at h
  | .ali j :: r, 0, nd, h => by simp at h; subst h; simp [aIdx]
  | .ali j :: r, k + 1, nd, h => by
    simp only [aliNd, Bool.and_eq_true] at nd
    have e := aIdx_of (k := k) nd.2 (by simpa using h)
    have : ¬ j = i := fun z => by subst z; rw [e] at nd; simp at nd
    simp [aIdx, this, e]
  | .own _ :: r, 0, nd, h => by simp at h
  | .own _ :: r, k + 1, nd, h => by
    have e := aIdx_of (tms := r) (k := k) (by simpa [aliNd] using nd) (by simpa using h)
    simp [aIdx, e]
theorem putOuts_len : ∀ (tms : List TM) (s : State) (q : List (Option T)), (putOuts s tms q).length = s.length
  | [], s, _ => by cases s <;> rfl
  | .ali i :: r, s, [] => by rw [putOuts, putOuts_len r]; simp
  | .ali i :: r, s, o :: q => by rw [putOuts, putOuts_len r]; simp
  | .own _ :: r, s, q => by rw [putOuts, putOuts_len r]
theorem putOuts_none : ∀ (tms : List TM) (s : State) (q : List (Option T)) (i : Nat), aIdx i tms = none → (putOuts s tms q)[i]? = s[i]?
  | [], s, _, i, _ => by cases s <;> rfl
  | .ali j :: r, s, q, i, h => by
    unfold aIdx at h
    split at h
    · cases h
    · rename_i hj
      have h' : aIdx i r = none := by simpa using h
      cases q with
      | nil => rw [putOuts, putOuts_none r _ _ i h', List.getElem?_set_ne hj]
      | cons o q => rw [putOuts, putOuts_none r _ _ i h', List.getElem?_set_ne hj]
  | .own _ :: r, s, q, i, h => by
    have h' : aIdx i r = none := by simpa [aIdx] using h
    rw [putOuts, putOuts_none r _ _ i h']
theorem putOuts_some : ∀ (tms : List TM) (s : State) (q : List (Option T)) (i k : Nat) (t : T), aliNd tms = true → aIdx i tms = some k → (putOuts s tms q)[i]? = some (some t) → q[k]? = some (some t)
  | [], s, _, i, k, t, _, h, _ => by simp [aIdx] at h
  | .ali j :: r, s, q, i, k, t, nd, h, e => by
    simp only [aliNd, Bool.and_eq_true] at nd
    unfold aIdx at h
    split at h
    · rename_i hj
      subst hj
      cases h
      have hn : aIdx j r = none := by simpa using nd.1
      cases q with
      | nil =>
        rw [putOuts, putOuts_none r _ _ j hn, List.getElem?_set] at e
        simp at e
      | cons o q =>
        rw [putOuts, putOuts_none r _ _ j hn, List.getElem?_set] at e
        simp at e
        simpa using e.2
    · cases e2 : aIdx i r with
      | none => rw [e2] at h; cases h
      | some k' =>
        rw [e2] at h; cases h
        cases q with
        | nil =>
          rw [putOuts] at e
          have := putOuts_some r _ _ i k' t nd.2 e2 e
          simp at this
        | cons o q =>
          rw [putOuts] at e
          have := putOuts_some r _ _ i k' t nd.2 e2 e
          simpa using this
  | .own _ :: r, s, q, i, k, t, nd, h, e => by
    unfold aIdx at h
    cases e2 : aIdx i r with
    | none => rw [e2] at h; cases h
    | some k' =>
      rw [e2] at h; cases h
      rw [putOuts] at e
      have := putOuts_some r _ _ i k' t (by simpa [aliNd] using nd) e2 e
      cases q with
      | nil => simp at this
      | cons o q => simpa using this
/-- the arguments among the temporaries -/
theorem Tms.args {G H : Hp} {ω : Addr → Option Lab} {σ : St} : ∀ (vs : List V) (tms : List TM) (tmp : Tmp), vs.length = tms.length → Tms G H ω σ (pushes vs tms tmp) →
    Tms G H ω σ tmp ∧ ∀ k tm, tms[k]? = some tm → ∃ v, vs[k]? = some v ∧ TmOk G H ω σ [1, tmp.length + k] tm v
  | [], [], tmp, _, h => ⟨h, fun k tm e => by simp at e⟩
  | v :: vs, tm :: tms, tmp, hl, h => by
    obtain ⟨⟨a, b⟩, c⟩ := Tms.args vs tms ((v, tm) :: tmp) (by simpa using hl) h
    refine ⟨b, fun k u e => ?_⟩
    cases k with
    | zero => simp at e; subst e; exact ⟨v, rfl, a⟩
    | succ k =>
      obtain ⟨w, e1, e2⟩ := c k u (by simpa using e)
      refine ⟨w, by simpa using e1, ?_⟩
      rw [List.length_cons] at e2
      rwa [show tmp.length + (k + 1) = tmp.length + 1 + k by omega]
  | [], _ :: _, _, hl, _ => by simp at hl
  | _ :: _, [], _, hl, _ => by simp at hl
def psi (n : Nat) (tms : List TM) : Lab → Option Lab
  | 1 :: j :: x => if n ≤ j ∧ j < n + tms.length then some (0 :: (j - n) :: x) else none
  | 0 :: i :: x => (aIdx i tms).map fun k => 0 :: k :: x
  | _ => none
def chi (n : Nat) (tms : List TM) : Lab → Option Lab
  | 2 :: x => some (1 :: n :: x)
  | 0 :: k :: x => match tms[k]? with | some (.ali i) => some (0 :: i :: x) | _ => none
  | _ => none
def wBack (ω ω' : Addr → Option Lab) (n : Nat) (tms : List TM) : Addr → Option Lab := fun a => match ω a with
  | some lab => if (psi n tms lab).isSome = true then (ω' a).bind (chi n tms) else some lab
  | none => (ω' a).bind (chi n tms)
theorem wAfter.errP {F : Fc} {G H H' G' : Hp} {ω wc : Addr → Option Lab} {tmp : Tmp} {s : State} {σ : St} (h : Hd F G ω tmp s σ H) (hc : ∀ a, (wc a).isSome = true → (ω a).isSome = true) (p : wAfter G wc H G' H') :
    Same F.G0 G' ∧ Same G' H' ∧ (∀ a o, G' a = some o → F.G0 a = some o ∨ F.H0 a = none ∨ (F.w0 a).isSome = true) ∧ (∀ a o, F.H0 a = some o → F.w0 a = none → H' a = some o) ∧ (∀ a o, F.H0 a = some o → ∃ o', H' a = some o') := by
  obtain ⟨p1, p2, p3, p4, p5⟩ := p
  refine ⟨h.g0.trans p1, p2, fun a o e => ?_, fun a o e w => ?_, fun a o e => ?_⟩
  · rcases p3 a o e with q | q | q
    · exact h.gn a o q
    · exact .inr (.inl (h.new q))
    · obtain ⟨lab, hl⟩ := Option.isSome_iff_exists.mp (hc a q)
      exact .inr (h.wg a lab hl).2.2
  · refine p4 a o (h.fr a o e w) ?_
    cases q : wc a with
    | none => rfl
    | some lab =>
      obtain ⟨lab', hl⟩ := Option.isSome_iff_exists.mp (hc a (by rw [q]; rfl))
      rcases (h.wg a lab' hl).2.2 with z | z
      · rw [e] at z; cases z
      · rw [w] at z; cases z
  · obtain ⟨o', e'⟩ := h.ex a o e
    exact p5 a o' e'
theorem call_core {A R R' : Type} {ec : Nat → Addr} {ea : A → List T} {mir : A → Res R'} {er : R' → T} {eo : R' → List (Option T)} {F : Fc} {tmp : Tmp} {s1 : State} {m : Res R} {K : Rs R} {E : XK} {σ : St} {Q : VK} {tms : List TM} {vs : List V} {H1 : Hp} (hec : F.ec = ec) (hE : (∀ c d H', F.E c d H' → E c d H') ∨ ∀ a e, mir a ≠ .err e)
    (nf : m ≠ .fail) (eo' : EOk F m) (q : ∀ tm s' v H', K tm s' m → Holds F ((v, tm) :: tmp) s' σ H' → Q v H') (hx : ∃ (a : A) (k : R' → Res R), m = rb (mir a) k ∧ tms.map (treeAt s1) = (ea a).map some ∧ aliNd tms = true ∧ ∀ r, K (.own (er r)) (putOuts s1 tms (eo r)) (k r))
    (hl : vs.length = tms.length) (h1 : Holds F (pushes vs tms tmp) s1 σ H1) : spOf ec ea mir er eo (vs ++ []) H1 Q E := by
  obtain ⟨a, k, em, ht, nd, hk⟩ := hx
  obtain ⟨G, ω, h1⟩ := h1
  obtain ⟨ht0, hargs⟩ := Tms.args vs tms tmp hl h1.tm
  have hlen : tms.length = (ea a).length := by simpa using congrArg List.length ht
  rw [List.append_nil]
  have hwc : ∀ x, ((rl ω (psi tmp.length tms)) x).isSome = true → (ω x).isSome = true := fun x hx => by
    obtain ⟨lab, e⟩ := Option.isSome_iff_exists.mp hx
    obtain ⟨p, e1, _⟩ := rl_some e
    rw [e1]; rfl
  have cases := rb_cases (by rw [← em]; exact nf : rb (mir a) k ≠ .fail)
  refine ⟨a, G, rl ω (psi tmp.length tms), h1.gH, fun x p e => ?_, by rw [hl, hlen], fun j u e => ?_, fun z => ?_, fun r v H' er' po => ?_, fun e od H' ee po => ?_⟩
  · obtain ⟨p', e1, _⟩ := rl_some e
    exact ⟨(h1.wg x p' e1).1, (h1.wg x p' e1).2.1⟩
  · have hj : j < tms.length := by rw [hlen]; exact (List.getElem?_eq_some_iff.mp e).1
    have e2 : (tms.map (treeAt s1))[j]? = some (some u) := by rw [ht, List.getElem?_map, e]; rfl
    rw [List.getElem?_map] at e2
    cases e3 : tms[j]? with
    | none => rw [e3] at e2; cases e2
    | some tm =>
      rw [e3] at e2
      have e4 : treeAt s1 tm = some u := by simpa using e2
      obtain ⟨v, ev, ok⟩ := hargs j tm e3
      refine ⟨v, ev, ?_⟩
      cases tm with
      | own t' =>
        cases e4
        exact Own.rl ok fun x => by simp [psi, hj]
      | ali i =>
        have es : s1[i]? = some (some u) := by
          cases e5 : s1[i]? with
          | none => simp [treeAt, e5] at e4
          | some x => simp [treeAt, e5] at e4; rw [e4]
        obtain ⟨v', a1, a2⟩ := h1.sl i u es
        have : v' = v := by
          have ok' : σ[i]? = some (some v) := ok
          rw [ok'] at a1; cases a1; rfl
        subst this
        exact Own.rl a2 fun x => by simp [psi, aIdx_of nd e3]
  · rcases cases with ⟨b, e1, _⟩ | ⟨b, e1, _⟩ <;> (rw [z] at e1; cases e1)
  · have em' : m = k r := by rw [em, er']; rfl
    obtain ⟨G', ω', pa, pw, pr, pouts⟩ := po
    obtain ⟨f1, f2, f3, f4, f5⟩ := wAfter.errP h1 hwc pa
    obtain ⟨p1, p2, p3, p4, p5⟩ := pa
    -- who was lent
    have lent : ∀ x lab, ω x = some lab → (psi tmp.length tms lab).isSome = false → ω' x = none := fun x lab e1 e2 => by
      cases e3 : ω' x with
      | none => rfl
      | some l2 =>
        rcases (pw x l2 e3).2.2 with z | z
        · obtain ⟨o, ho⟩ := (h1.wg x lab e1).2.1
          rw [ho] at z; cases z
        · unfold rl at z
          rw [e1] at z
          rw [show ((some lab).bind (psi tmp.length tms)) = psi tmp.length tms lab from rfl, e2] at z
          cases z
    have back : ∀ x l2 l3, ω' x = some l2 → chi tmp.length tms l2 = some l3 → wBack ω ω' tmp.length tms x = some l3 := fun x l2 l3 e1 e2 => by
      unfold wBack
      cases e3 : ω x with
      | none => simp only [e1]; exact e2
      | some lab =>
        cases e4 : (psi tmp.length tms lab).isSome with
        | true => simp only [e4, if_true, e1]; exact e2
        | false =>
          rw [lent x lab e3 e4] at e1
          cases e1
    have kept : ∀ x lab, ω x = some lab → psi tmp.length tms lab = none → H' x = H1 x ∧ wBack ω ω' tmp.length tms x = some lab := fun x lab e1 e2 => by
      obtain ⟨o, ho⟩ := (h1.wg x lab e1).2.1
      refine ⟨?_, ?_⟩
      · rw [ho]
        exact p4 x o ho (by unfold rl; rw [e1]; exact e2)
      · unfold wBack
        rw [e1]
        simp [e2]
    refine q (.own (er r)) (putOuts s1 tms (eo r)) v H' (by rw [em']; exact hk r) ⟨G', wBack ω ω' tmp.length tms, f1, f2, f3, f4, f5, fun x p e => ?_, ?_, fun i u e => ?_, ⟨?_, ?_⟩, h1.pn⟩
    · unfold wBack at e
      have fromNew : (ω' x).bind (chi tmp.length tms) = some p → G' x = none ∧ (∃ o, H' x = some o) ∧ (F.H0 x = none ∨ (F.w0 x).isSome = true) := fun e => by
        cases e3 : ω' x with
        | none => rw [e3] at e; cases e
        | some l2 =>
          obtain ⟨w1, w2, w3⟩ := pw x l2 e3
          refine ⟨w1, w2, ?_⟩
          rcases w3 with z | z
          · exact .inl (h1.new z)
          · obtain ⟨lab, hl2⟩ := Option.isSome_iff_exists.mp (hwc x z)
            exact (h1.wg x lab hl2).2.2
      split at e
      · rename_i lab e1
        split at e
        · exact fromNew e
        · rename_i hn
          have hn' : psi tmp.length tms lab = none := by simpa using hn
          cases e
          obtain ⟨g1, ⟨o, ho⟩, g3⟩ := h1.wg x _ e1
          refine ⟨?_, ⟨o, ?_⟩, g3⟩
          · cases e5 : G' x with
            | none => rfl
            | some o2 =>
              rcases p3 x o2 e5 with z | z | z
              · rw [g1] at z; cases z
              · rw [ho] at z; cases z
              · unfold rl at z
                rw [e1] at z
                rw [show ((some p).bind (psi tmp.length tms)) = psi tmp.length tms p from rfl, hn'] at z
                cases z
          · rw [(kept x p e1 hn').1]; exact ho
      · exact fromNew e
    · rw [putOuts_len]; exact h1.len
    · cases e1 : aIdx i tms with
      | none =>
        rw [putOuts_none tms s1 _ i e1] at e
        obtain ⟨v', a1, a2⟩ := h1.sl i u e
        exact ⟨v', a1, Own.move p1 _ _ u v' (fun x y w => kept x _ w (by simp [psi, e1])) a2⟩
      | some j =>
        obtain ⟨w, w1, w2⟩ := pouts j u (putOuts_some tms s1 _ i j u nd e1 e)
        obtain ⟨v', a1, a2⟩ := hargs j _ (aIdx_get e1)
        rw [w1] at a1
        cases a1
        exact ⟨w, a2, Own.move (Same.refl _) _ _ u w (fun x y z => ⟨rfl, back x _ _ z (by simp [chi, aIdx_get e1])⟩) w2⟩
    · exact Own.move (Same.refl _) _ _ _ v (fun x y z => ⟨rfl, back x _ _ z (by simp [chi])⟩) pr
    · exact Tms.move p1 tmp (fun j x y hj w => kept x _ w (by
        have : ¬ (tmp.length ≤ j ∧ j < tmp.length + tms.length) := by omega
        simp [psi, this])) ht0
  · have em' : m = .err e := by rw [em, ee]; rfl
    obtain ⟨G', pa, pe⟩ := po
    obtain ⟨f1, f2, f3, f4, f5⟩ := wAfter.errP h1 hwc pa
    rcases hE with hE | hE
    case inr => exact absurd ee (hE a e)
    refine hE _ _ _ ?_
    rw [← hec]
    refine eo' e em' od H' ⟨G', f1, f2, f3, f4, f5, ?_⟩
    cases e6 : e.a with
    | none => rw [e6] at pe; exact pe
    | some d =>
      rw [e6] at pe
      obtain ⟨dx, v, b1, b2, b3, b4⟩ := pe
      exact ⟨dx, v, b1, h1.new b2, b3, b4⟩
theorem rd_callG {A R R' : Type} {ec : Nat → Addr} {ea : A → List T} {mir : A → Res R'} {er : R' → T} {eo : R' → List (Option T)} {F : Fc} {tmp : Tmp} {s : State} {m : Res R} {K : Rs R} {t : TA} {E : XK} (hec : F.ec = ec) (hE : (∀ c d H', F.E c d H' → E c d H') ∨ ∀ a e, mir a ≠ .err e)
    (h : RA F tmp s m t (fun tms s1 m1 => ∃ (a : A) (k : R' → Res R), m1 = rb (mir a) k ∧ tms.map (treeAt s1) = (ea a).map some ∧ aliNd tms = true ∧ ∀ r, K (.own (er r)) (putOuts s1 tms (eo r)) (k r))) :
    RD F tmp s (tCall (spOf ec ea mir er eo) [] E t) m K := fun σ H Q hh nf eo' q => h σ H _ hh nf eo' fun tms s1 vs H1 hx hl h1 => call_core hec hE nf eo' q hx hl h1
theorem rd_call {A R R' : Type} {ec : Nat → Addr} {ea : A → List T} {mir : A → Res R'} {er : R' → T} {eo : R' → List (Option T)} {F : Fc} {tmp : Tmp} {s : State} {m : Res R} {K : Rs R} {t : TA} {E : XK} (hec : F.ec = ec) (hE : F.E = E)
    (h : RA F tmp s m t (fun tms s1 m1 => ∃ (a : A) (k : R' → Res R), m1 = rb (mir a) k ∧ tms.map (treeAt s1) = (ea a).map some ∧ aliNd tms = true ∧ ∀ r, K (.own (er r)) (putOuts s1 tms (eo r)) (k r))) :
    RD F tmp s (tCall (spOf ec ea mir er eo) [] E t) m K := rd_callG hec (.inl fun _ _ _ z => hE ▸ z) h
end VL

namespace VL
open PySem L2
variable [EC]

/-! an owned object is written -/
section
variable {F : Fc} {G H H' : Hp} {ω : Addr → Option Lab} {tmp : Tmp} {s : State} {σ : St} {v : V} {t : T} {d : D} {a : Addr} {p : Lab}
theorem Hd.wr (h : Hd F G ω tmp s σ H) (hw : ω a = some p) (o' : HO) {s' : State} {tmp' : Tmp} (hl : s'.length = s.length)
    (hs : ∀ i t, s'[i]? = some (some t) → ∃ v, σ[i]? = some (some v) ∧ Own G (upd H a o') ω [0, i] t v) (ht : Tms G (upd H a o') ω σ tmp') : Hd F G ω tmp' s' σ (upd H a o') := by
  obtain ⟨g1, ⟨o, ho⟩, g3⟩ := h.wg a p hw
  refine ⟨h.g0, fun b u e => ?_, h.gn, fun b u e w => ?_, fun b u e => ?_, fun b q e => ?_, h.len.trans hl.symm, hs, ht, h.pn⟩
  · have : b ≠ a := fun z => by subst z; rw [g1] at e; cases e
    rw [upd_ne this]; exact h.gH b u e
  · have : b ≠ a := fun z => by
      subst z
      rcases g3 with z | z
      · rw [e] at z; cases z
      · rw [w] at z; cases z
    rw [upd_ne this]; exact h.fr b u e w
  · by_cases hb : b = a
    · subst hb; exact ⟨o', upd_same⟩
    · rw [upd_ne hb]; exact h.ex b u e
  · obtain ⟨q1, ⟨u, q2⟩, q3⟩ := h.wg b q e
    refine ⟨q1, ?_, q3⟩
    by_cases hb : b = a
    · subst hb; exact ⟨o', upd_same⟩
    · exact ⟨u, by rw [upd_ne hb]; exact q2⟩
theorem Own.wrO {o' : HO} {q : Lab} (hw : ω a = some p) (n : pre q p = false) (h : Own G H ω q t v) : Own G (upd H a o') ω q t v :=
  Own.move (Same.refl _) q q t v (fun b x e => ⟨upd_ne (fun z => by subst z; rw [hw] at e; cases e; rw [pre_app] at n; cases n), e⟩) h
theorem Tms.wrO {o' : HO} (hw : ω a = some p) (tmp : Tmp) (n : ∀ j, j < tmp.length → pre [1, j] p = false) (h : Tms G H ω σ tmp) : Tms G (upd H a o') ω σ tmp :=
  Tms.move (Same.refl _) tmp (fun j b x hj e => ⟨upd_ne (fun z => by subst z; rw [hw] at e; cases e; have := n j hj; rw [pre_app] at this; cases this), e⟩) h
/-- an owned list in slot i -/
theorem Holds.wrSlot (h : Holds F tmp s σ H) {i : Nat} {ds : List D} (hi : s[i]? = some (some (.l ds))) :
    ∃ a vs, σ[i]? = some (some (.ref a)) ∧ H a = some (.lst vs) ∧ vs.length = ds.length ∧ ds.length ≤ sizeLine ∧ (∀ (k : Nat) (d : D), ds[k]? = some d → ∃ v, vs[k]? = some v ∧ ∀ {x : V}, x = v → Holds F ((x, .own (.f d)) :: tmp) s σ H) ∧
      ∀ (ds' : List D) (vs' : List V), ds'.length ≤ sizeLine → (∀ G, Same F.G0 G → Same G H → Reps G ds vs → (∀ x r, tmp = x :: r → ∀ d, x.2 = .own (.f d) → Rep G d x.1) → Reps G ds' vs') → Holds F tmp (s.set i (some (.l ds'))) σ (upd H a (.lst vs')) := by
  obtain ⟨G, ω, h⟩ := h
  obtain ⟨v, e1, a, vs, rfl, ha, hw, z, r⟩ := h.sl i _ hi
  refine ⟨a, vs, e1, ha, r.length.symm, z, fun k d e => ?_, fun ds' vs' hz hr => ⟨G, ω, h.wr hw (.lst vs') (by simp) (fun j u e => ?_) (Tms.wrO hw tmp (fun j hj => by simp [pre]) h.tm)⟩⟩
  · obtain ⟨v, e2, e3⟩ := r.get e
    exact ⟨v, e2, fun {x} ex => ⟨G, ω, h.pushF (by rw [ex]; exact e3)⟩⟩
  · have hil : i < s.length := (List.getElem?_eq_some_iff.mp hi).1
    by_cases hj : i = j
    · subst hj
      rw [List.getElem?_set_self hil] at e
      cases e
      refine ⟨_, e1, a, vs', rfl, upd_same, hw, hz, hr G h.g0 h.gH r fun x r2 et d ed => ?_⟩
      have ht := h.tm
      rw [et] at ht
      have ht1 := ht.1
      rw [ed] at ht1
      exact ht1
    · rw [List.getElem?_set_ne hj] at e
      obtain ⟨v', b1, b2⟩ := h.sl j u e
      exact ⟨v', b1, Own.wrO hw (by simp [pre]; exact fun z => hj z.symm) b2⟩
/-- an owned list among the temporaries, with what comes to it on top -/
theorem Holds.wrTmp {D' : Addr} {acc : List D} {y : V} (h : Holds F ((y, .own (.f d)) :: (.ref D', .own (.l acc)) :: tmp) s σ H) (hz : acc.length < sizeLine) :
    ∃ vs, H D' = some (.lst vs) ∧ vs.length = acc.length ∧ Holds F ((.ref D', .own (.l (acc ++ [d]))) :: tmp) s σ (upd H D' (.lst (vs ++ [y]))) := by
  obtain ⟨G, ω, h⟩ := h
  obtain ⟨hy, ⟨a, vs, e, ha, hw, z, r⟩, ht⟩ := h.tm
  cases e
  refine ⟨vs, ha, r.length.symm, G, ω, h.wr hw _ rfl (fun j u e => ?_) ⟨⟨D', vs ++ [y], rfl, upd_same, hw, by simp; omega, r.append ⟨y, [], rfl, hy, rfl⟩⟩, Tms.wrO hw tmp (fun j hj => ?_) ht⟩⟩
  · obtain ⟨v', b1, b2⟩ := h.sl j u e
    exact ⟨v', b1, Own.wrO hw (by simp [pre]) b2⟩
  · have : ¬ j = tmp.length := by omega
    simp [pre, this]
end

/-! loops -/
inductive Fl (Z R : Type) where
  | nx (z : Z) | rt (r : R)
def forL {Z R : Type} : List D → Z → (Z → D → Res (Fl Z R)) → Res (Fl Z R)
  | [], z, _ => .ok (.nx z)
  | d :: r, z, f => rb (f z d) fun o => match o with | .nx z' => forL r z' f | .rt x => .ok (.rt x)
def forN {Z : Type} : List D → Z → (Z → D → Res Z) → Res Z
  | [], z, _ => .ok z
  | d :: r, z, f => rb (f z d) fun z' => forN r z' f
def whileN {Z : Type} : Nat → Z → (Z → Res Bool) → (Z → Res Z) → Res Z
  | 0, _, _, _ => .fail
  | n + 1, z, c, b => rb (c z) fun t => if t = true then rb (b z) fun z' => whileN n z' c b else .ok z
/-- a comprehension that changes what stands outside -/
def fmS {Z : Type} : List D → Z → (Z → D → Res (Option D × Z)) → Res (List D × Z)
  | [], z, _ => .ok ([], z)
  | d :: r, z, f => rb (f z d) fun o => rb (fmS r o.2 f) fun q => .ok (match o.1 with | some y => y :: q.1 | none => q.1, q.2)
def fmR : List D → (D → Res (Option D)) → Res (List D)
  | [], _ => .ok []
  | d :: r, f => rb (f d) fun o => rb (fmR r f) fun q => .ok (match o with | some y => y :: q | none => q)
structure ItOk (F : Fc) (tmp0 tmp : Tmp) (P : State → Prop) (pb : State → State) (J : It) (ds : List D) : Prop where
  bk : ∀ (pre : Tmp) s σ H, P s → Holds F (pre ++ tmp) s σ H → Holds F (pre ++ tmp0) (pb s) σ H
  sz : ds.length ≤ sizeLine
  go : ∀ s σ H i, P s → Holds F tmp s σ H → i < ds.length → J.go i H
  stop : ∀ s σ H, P s → Holds F tmp s σ H → J.stop ds.length H
  yld : ∀ (pre : Tmp) s σ H (i : Nat) (d : D) x H', P s → Holds F (pre ++ tmp) s σ H → ds[i]? = some d → J.yld i H x H' → Holds F ((x, .own (.f d)) :: (pre ++ tmp)) s σ H'
section
variable {R : Type} (F : Fc) (tmp : Tmp) (s : State) (m : Res R)
def RI (wi : TI) (K : Tmp → (State → Prop) → (State → State) → List D → State → Res R → Prop) : Prop :=
  ∀ σ H Q, Holds F tmp s σ H → m ≠ .fail → EOk F m → (∀ ex P pb ds s' J H', K ex P pb ds s' m → ItOk F tmp (ex ++ tmp) P pb J ds → Holds F (ex ++ tmp) s' σ H' → Q J H') → wi σ H Q
def RG (is : List Nat) (g : TG) (d : D) (K : State → Res R → Prop) : Prop :=
  ∀ σ H v Q, Holds F ((v, .own (.f d)) :: tmp) s σ H → m ≠ .fail → EOk F m → (∀ s' σ' H', K s' m → Holds F tmp s' σ' H' → (∀ j, j ∉ is → σ'[j]? = σ[j]?) → σ'.length = σ.length → Q σ' H') → g v σ H Q
end
section
variable {R : Type} {F : Fc} {tmp : Tmp} {s : State} {m : Res R} {K : Rs R} {N : Rn R} {Rt : Rr R}
theorem rs_for {Z R' : Type} {wi : TI} {g : TG} {tb : TS} (is : List Nat) (h : RI F tmp s m wi (fun ex P pb ds s1 m1 => ∃ (S : Z → State) (z0 : Z) (f : Z → D → Res (Fl Z R')) (k : Fl Z R' → Res R),
      m1 = rb (forL ds z0 f) k ∧ Sub s1 (S z0) ∧ (∀ z, P (S z)) ∧
      (∀ z d, RG F (ex ++ tmp) (S z) (f z d) is g d (fun s2 m2 => RS F (ex ++ tmp) s2 m2 tb (fun s3 m3 => ∃ z', m3 = .ok (.nx z') ∧ Sub s3 (S z')) (fun t s3 m3 => ∃ r, m3 = .ok (.rt r) ∧ Rt t s3 (k (.rt r))))) ∧
      ∀ z, N (pb (S z)) (k (.nx z)))) : RS F tmp s m (tFor wi g tb) N Rt := fun σ H De hh nf eo nx rt => by
  refine h σ H _ hh nf eo fun ex P pb ds s1 J H1 ⟨S, z0, f, k, em, sb, hP, body, fin⟩ it h1 => ?_
  refine ⟨fun i n σ' H' => ∃ z, i + n = ds.length ∧ Holds F (ex ++ tmp) (S z) σ' H' ∧ rb (forL (ds.drop i) z f) k = m, ⟨ds.length, z0, by simp, h1.sub sb, by rw [List.drop_zero]; exact em.symm⟩, ?_⟩
  rintro i n σ' H' ⟨z, hin, hz, ez⟩
  cases n with
  | zero =>
    have hi : i = ds.length := by omega
    subst hi
    refine .inl ⟨it.stop _ _ _ (hP z) hz, ?_⟩
    rw [List.drop_length] at ez
    refine nx (pb (S z)) σ' H' ?_ (it.bk [] _ _ _ (hP z) hz)
    rw [← ez]
    exact fin z
  | succ n =>
    have hi : i < ds.length := by omega
    refine .inr ⟨it.go _ _ _ i (hP z) hz hi, _, fun σ2 H2 w => ⟨n, by omega, w⟩, fun x H2 y => ?_⟩
    have hd : ds[i]? = some ds[i] := List.getElem?_eq_getElem hi
    have h2 := it.yld [] _ _ _ i _ x H2 (hP z) hz hd y
    rw [List.drop_eq_getElem_cons hi] at ez
    have ez' : rb (rb (f z ds[i]) fun o => match o with | .nx z' => forL (ds.drop (i + 1)) z' f | .rt x => .ok (.rt x)) k = m := ez
    have nf' : f z ds[i] ≠ .fail := fun q => nf (by rw [← ez', q]; rfl)
    have eo' : EOk F (f z ds[i]) := eo.of fun e he => by rw [← ez', he]; rfl
    refine body z ds[i] σ' H2 x _ h2 nf' eo' fun s3 σ3 H3 hb h3 _ _ => ?_
    refine hb σ3 H3 _ h3 nf' eo' (fun s4 σ4 H4 ⟨z', e1, q⟩ h4 => ?_) fun t s4 v σ4 H4 ⟨r, e1, q⟩ h4 => ?_
    · refine ⟨z', by omega, h4.sub q, ?_⟩
      rw [← ez', e1]; rfl
    · refine rt t s4 v σ4 H4 ?_ h4
      have : m = k (.rt r) := by rw [← ez', e1]; rfl
      rw [this]; exact q
theorem rs_forN {Z : Type} {wi : TI} {g : TG} {tb : TS} (is : List Nat) (h : RI F tmp s m wi (fun ex P pb ds s1 m1 => ∃ (S : Z → State) (z0 : Z) (f : Z → D → Res Z) (k : Z → Res R),
      m1 = rb (forN ds z0 f) k ∧ Sub s1 (S z0) ∧ (∀ z, P (S z)) ∧
      (∀ z d, RG F (ex ++ tmp) (S z) (f z d) is g d (fun s2 m2 => RS F (ex ++ tmp) s2 m2 tb (fun s3 m3 => ∃ z', m3 = .ok z' ∧ Sub s3 (S z')) (fun t s3 m3 => False))) ∧
      ∀ z, N (pb (S z)) (k z))) : RS F tmp s m (tFor wi g tb) N Rt := fun σ H De hh nf eo nx rt => by
  refine h σ H _ hh nf eo fun ex P pb ds s1 J H1 ⟨S, z0, f, k, em, sb, hP, body, fin⟩ it h1 => ?_
  refine ⟨fun i n σ' H' => ∃ z, i + n = ds.length ∧ Holds F (ex ++ tmp) (S z) σ' H' ∧ rb (forN (ds.drop i) z f) k = m, ⟨ds.length, z0, by simp, h1.sub sb, by rw [List.drop_zero]; exact em.symm⟩, ?_⟩
  rintro i n σ' H' ⟨z, hin, hz, ez⟩
  cases n with
  | zero =>
    have hi : i = ds.length := by omega
    subst hi
    refine .inl ⟨it.stop _ _ _ (hP z) hz, ?_⟩
    rw [List.drop_length] at ez
    refine nx (pb (S z)) σ' H' ?_ (it.bk [] _ _ _ (hP z) hz)
    rw [← ez]
    exact fin z
  | succ n =>
    have hi : i < ds.length := by omega
    refine .inr ⟨it.go _ _ _ i (hP z) hz hi, _, fun σ2 H2 w => ⟨n, by omega, w⟩, fun x H2 y => ?_⟩
    have hd : ds[i]? = some ds[i] := List.getElem?_eq_getElem hi
    have h2 := it.yld [] _ _ _ i _ x H2 (hP z) hz hd y
    rw [List.drop_eq_getElem_cons hi] at ez
    have ez' : rb (rb (f z ds[i]) fun z' => forN (ds.drop (i + 1)) z' f) k = m := ez
    have nf' : f z ds[i] ≠ .fail := fun q => nf (by rw [← ez', q]; rfl)
    have eo' : EOk F (f z ds[i]) := eo.of fun e he => by rw [← ez', he]; rfl
    refine body z ds[i] σ' H2 x _ h2 nf' eo' fun s3 σ3 H3 hb h3 _ _ => ?_
    refine hb σ3 H3 _ h3 nf' eo' (fun s4 σ4 H4 ⟨z', e1, q⟩ h4 => ?_) fun t s4 v σ4 H4 q h4 => q.elim
    refine ⟨z', by omega, h4.sub q, ?_⟩
    rw [← ez', e1]; rfl
theorem rs_whileN {Z : Type} {c : TT} {tb : TS} (n : Nat) (S : Z → State) (z0 : Z) (fc : Z → Res Bool) (f : Z → Res Z) (k : Z → Res R) (em : m = rb (whileN n z0 fc f) k) (sb : Sub s (S z0))
    (hc : ∀ z, RT F tmp (S z) (fc z) c (fun b s2 m2 => m2 = .ok b ∧ Sub s2 (S z)))
    (hb : ∀ z, RS F tmp (S z) (f z) tb (fun s3 m3 => ∃ z', m3 = .ok z' ∧ Sub s3 (S z')) (fun t s3 m3 => False))
    (fin : ∀ z, N (S z) (k z)) : RS F tmp s m (tWhile c tb) N Rt := fun σ H De hh nf eo nx rt => by
  refine ⟨fun n σ' H' => ∃ z, Holds F tmp (S z) σ' H' ∧ rb (whileN n z fc f) k = m, ⟨n, z0, hh.sub sb, em.symm⟩, ?_⟩
  rintro n σ' H' ⟨z, hz, ez⟩
  cases n with
  | zero => exact absurd ez.symm nf
  | succ n =>
    have ez' : rb (rb (fc z) fun t => if t = true then rb (f z) fun z' => whileN n z' fc f else .ok z) k = m := ez
    have nf' : fc z ≠ .fail := fun q => nf (by rw [← ez', q]; rfl)
    refine hc z σ' H' _ hz nf' (eo.of fun e he => by rw [← ez', he]; rfl) fun b s2 H2 ⟨eb, sb2⟩ h2 => ?_
    rw [eb] at ez'
    cases b with
    | false =>
      simp only [Bool.false_eq_true, if_false]
      refine nx (S z) σ' H2 ?_ (h2.sub sb2)
      rw [← ez']; exact fin z
    | true =>
      simp only [if_true]
      have ez2 : rb (rb (f z) fun z' => whileN n z' fc f) k = m := ez'
      have nf2 : f z ≠ .fail := fun q => nf (by rw [← ez2, q]; rfl)
      refine ⟨_, fun σ3 H3 w => ⟨n, Nat.lt_succ_self n, w⟩, ?_⟩
      refine hb z σ' H2 _ (h2.sub sb2) nf2 (eo.of fun e he => by rw [← ez2, he]; rfl) (fun s4 σ4 H4 ⟨z', e1, q⟩ h4 => ?_) fun t s4 v σ4 H4 q h4 => q.elim
      refine ⟨z', h4.sub q, ?_⟩
      rw [← ez2, e1]; rfl
/-! targets -/
theorem rg_name {i : Nat} {d : D} {K : State → Res R → Prop} (hi : i < s.length) (na : noAli i tmp = true) (hp : F.pv i = none) (k : K (s.set i (some (.f d))) m) : RG F tmp s m [i] (gName i) d K := fun σ H v Q hh nf eo q =>
  q _ _ H k (hh.store hi na hp) (fun j hj => by rw [List.getElem?_set_ne (fun z => hj (by simp [z]))]) (by simp)
end
end VL

namespace VL
open PySem L2
variable [EC]

/-! comprehensions -/
section
variable {F : Fc} {G H H' : Hp} {ω : Addr → Option Lab} {tmp : Tmp} {s : State} {σ : St} {v : V} {t : T} {d : D}
theorem Tms.tail {G H : Hp} {ω : Addr → Option Lab} {σ : St} {tmp : Tmp} : ∀ (ex : Tmp), Tms G H ω σ (ex ++ tmp) → Tms G H ω σ tmp
  | [], h => h
  | _ :: r, h => Tms.tail r h.2
def noAlis (vs : List Nat) (tmp : Tmp) : Bool := vs.all fun i => noAli i tmp
theorem Holds.wiped {vs : List Nat} (h : Holds F tmp s σ H) (hs : ∀ i ∈ vs, s[i]? = some none) (na : noAlis vs tmp = true) (hp : ∀ i ∈ vs, F.pv i = none) : Holds F tmp s (wipe σ vs) H := by
  obtain ⟨G, ω, h⟩ := h
  refine ⟨G, ω, { h with len := by rw [wipe_length]; exact h.len, sl := fun i t e => ?_, tm := ?_, pn := fun k v e => ?_ }⟩
  · have : i ∉ vs := fun z => by rw [hs i z] at e; cases e
    obtain ⟨v, a, b⟩ := h.sl i t e
    exact ⟨v, by rw [wipe_out this]; exact a, b⟩
  · refine Tms.slots tmp (fun i hi => wipe_out fun z => ?_) h.tm
    have := List.all_eq_true.mp na i z
    rw [hi] at this; cases this
  · have : k ∉ vs := fun z => by rw [hp k z] at e; cases e
    rw [wipe_out this]; exact h.pn k v e
theorem Tms.unwipe {G H : Hp} {ω : Addr → Option Lab} {σ : St} {vs : List Nat} : ∀ (tmp : Tmp), Tms G H ω (wipe σ vs) tmp → Tms G H ω σ tmp
  | [], _ => trivial
  | (v, .own t) :: r, ⟨a, b⟩ => ⟨a, Tms.unwipe r b⟩
  | (v, .ali j) :: r, ⟨a, b⟩ => ⟨(wipe_some a).1, Tms.unwipe r b⟩
theorem Holds.unwipe {vs : List Nat} (h : Holds F tmp s (wipe σ vs) H) : Holds F tmp s σ H := by
  obtain ⟨G, ω, h⟩ := h
  refine ⟨G, ω, { h with len := by rw [← h.len, wipe_length], sl := fun i t e => ?_, tm := Tms.unwipe tmp h.tm, pn := fun k v e => (wipe_some (h.pn k v e)).1 }⟩
  obtain ⟨v, a, b⟩ := h.sl i t e
  exact ⟨v, (wipe_some a).1, b⟩
theorem wipe_congr {σ σ2 : St} {vs is : List Nat} (h : ∀ j, j ∉ is → σ2[j]? = (wipe σ vs)[j]?) (hi : ∀ i ∈ is, i ∈ vs) (hl : σ2.length = (wipe σ vs).length) : wipe σ2 vs = wipe σ vs := by
  refine List.ext_getElem? fun j => ?_
  by_cases hj : j ∈ vs
  · have e1 : (wipe σ2 vs).length = (wipe σ vs).length := by rw [wipe_length, hl]
    by_cases hl2 : j < (wipe σ2 vs).length
    · have n1 : ∀ (τ : St), j < (wipe τ vs).length → (wipe τ vs)[j]? = some none := fun τ hτ => by
        cases e : (wipe τ vs)[j]? with
        | none => rw [List.getElem?_eq_none_iff] at e; omega
        | some x =>
          cases x with
          | none => rfl
          | some v => exact absurd hj (wipe_some e).2
      rw [n1 σ2 hl2, n1 σ (by omega)]
    · rw [List.getElem?_eq_none (by omega), List.getElem?_eq_none (by omega)]
  · rw [wipe_out hj, h j fun z => hj (hi j z), wipe_out hj]
end
section
variable {R : Type} {F : Fc} {tmp : Tmp} {s : State} {m : Res R} {K : Rs R} {N : Rn R} {Rt : Rr R}
/-- an owned value, frozen at once -/
theorem rd_fz {te : TE} (h : RD F tmp s te m (fun tm s1 m1 => ∃ t, tm = .own t ∧ K (.own (.f t.er)) s1 m1)) : RD F tmp s te m K := fun σ H Q hh nf eo q =>
  h σ H Q hh nf eo fun tm s' v H' ⟨t, e, hk⟩ h1 => by
    subst e
    exact q _ _ v H' hk h1.frzTop
def lcBody {Z : Type} (F : Fc) (tmp : Tmp) (S : Z → State) (is : List Nat) (g : TG) (tt : TT) (te : TE) (m : Res (Option D × Z)) (z : Z) (d : D) : Prop :=
  RG F tmp (S z) m is g d (fun s2 m2 => RT F tmp s2 m2 tt (fun b s3 m3 => ∃ ma mb, m3 = (if b = true then ma else mb) ∧
    (b = true → RD F tmp s3 te ma (fun tm s4 m4 => ∃ y z', tm = .own (.f y) ∧ m4 = .ok (some y, z') ∧ Sub s4 (S z'))) ∧ (b = false → ∃ z', mb = .ok (none, z') ∧ Sub s3 (S z'))))
def accD (acc : List D) : Option D → List D
  | some y => acc ++ [y]
  | none => acc
theorem fmS_step {Z S : Type} {d : D} {r acc : List D} {z z' : Z} {f : Z → D → Res (Option D × Z)} {k : List D × Z → Res S} (o : Option D) (e : f z d = .ok (o, z')) :
    rb (rb (fmS (d :: r) z f) fun q => .ok (acc ++ q.1, q.2)) k = rb (rb (fmS r z' f) fun q => .ok (accD acc o ++ q.1, q.2)) k := by
  show rb (rb (rb (f z d) _) _) k = _
  rw [e]
  show rb (rb (rb (fmS r z' f) _) _) k = _
  cases fmS r z' f with
  | ok q => cases o <;> simp [rb, accD]
  | err e => rfl
  | fail => rfl
theorem rd_lc {Z : Type} {wi : TI} {g : TG} {tt : TT} {te : TE} {vs : List Nat} (is : List Nat) (hv : ∀ i ∈ is, i ∈ vs) (hp : ∀ i ∈ vs, F.pv i = none)
    (h : RI F tmp s m wi (fun ex P pb ds s1 m1 => ∃ (S : Z → State) (z0 : Z) (f : Z → D → Res (Option D × Z)) (k : List D × Z → Res R), m1 = rb (fmS ds z0 f) k ∧ Sub s1 (S z0) ∧ (∀ z, P (S z)) ∧ (∀ z, ∀ i ∈ vs, (S z)[i]? = some none) ∧ noAlis vs (ex ++ tmp) = true ∧
      (∀ z d lv acc, lcBody F ((lv, .own (.l acc)) :: (ex ++ tmp)) S is g tt te (f z d) z d) ∧ ∀ p : List D × Z, K (.own (.l p.1)) (pb (S p.2)) (k p))) : RD F tmp s (tLc wi g tt te vs) m K := fun σ H Q hh nf eo q => by
  refine h σ H _ hh nf eo fun ex P pb ds s1 J H1 ⟨S, z0, f, k, em, sb, hP, hS, na, body, fin⟩ it h1 => ?_
  intro D' hD
  have h2 := (h1.sub sb).wiped (hS z0) na hp
  have h3 : Holds F ((.ref D', .own (.l [])) :: (ex ++ tmp)) (S z0) (wipe σ vs) (upd H1 D' (.lst [])) := by
    obtain ⟨G, ω, h2⟩ := h2
    exact h2.newL hD (Nat.zero_le _) rfl
  refine ⟨fun i n H' => ∃ z acc, i + n = ds.length ∧ acc.length ≤ i ∧ Holds F ((.ref D', .own (.l acc)) :: (ex ++ tmp)) (S z) (wipe σ vs) H' ∧ rb (rb (fmS (ds.drop i) z f) fun q => .ok (acc ++ q.1, q.2)) k = m, ⟨ds.length, z0, [], by simp, Nat.le_refl _, h3, ?_⟩, ?_⟩
  · rw [List.drop_zero, em]
    cases fmS ds z0 f with
    | ok q => simp [rb]
    | err e => rfl
    | fail => rfl
  rintro i n H' ⟨z, acc, hin, ha, hz, ez⟩
  cases n with
  | zero =>
    have hi : i = ds.length := by omega
    subst hi
    refine .inl ⟨it.stop _ _ _ (hP z) hz.pop, ?_⟩
    rw [List.drop_length] at ez
    refine q (.own (.l acc)) (pb (S z)) (.ref D') H' ?_ (it.bk [(.ref D', .own (.l acc))] _ _ _ (hP z) hz).unwipe
    have ez' : rb (.ok (acc ++ [], z)) k = m := ez
    rw [List.append_nil] at ez'
    rw [← ez']
    exact fin (acc, z)
  | succ n =>
    have hi : i < ds.length := by omega
    refine .inr ⟨it.go _ _ _ i (hP z) hz.pop hi, _, fun H2 w => ⟨n, by omega, w⟩, fun x H2 y => ?_⟩
    have hd : ds[i]? = some ds[i] := List.getElem?_eq_getElem hi
    have h4 := it.yld [(.ref D', .own (.l acc))] _ _ _ i _ x H2 (hP z) hz hd y
    rw [List.drop_eq_getElem_cons hi] at ez
    have nf' : f z ds[i] ≠ .fail := fun q => nf (by
      rw [← ez]
      show rb (rb (rb (f z ds[i]) _) _) k = _
      rw [q]; rfl)
    have eo' : EOk F (f z ds[i]) := eo.of fun e he => by
      rw [← ez]
      show rb (rb (rb (f z ds[i]) _) _) k = _
      rw [he]; rfl
    refine body z ds[i] (.ref D') acc _ H2 x _ h4 nf' eo' fun s3 σ3 H3 hb h5 hj hl => ?_
    refine ⟨wipe_congr hj hv hl, ?_⟩
    have hw := wipe_congr hj hv hl
    have back : ∀ {z' : Z} {s4 : State} {acc' : List D} {H4 : Hp}, Sub s4 (S z') → Holds F ((.ref D', .own (.l acc')) :: (ex ++ tmp)) s4 σ3 H4 → Holds F ((.ref D', .own (.l acc')) :: (ex ++ tmp)) (S z') (wipe σ vs) H4 := fun {z' s4 acc' H4} sb4 h => by
      have := (h.sub sb4).wiped (hS z') (by
        unfold noAlis at na ⊢
        rw [List.all_eq_true] at na ⊢
        exact fun i hi => na i hi) hp
      rw [hw] at this
      exact this
    refine hb σ3 H3 _ h5 nf' eo' fun b s4 H4 ⟨ma, mb, eb, hT, hF⟩ h6 => ?_
    cases b with
    | false =>
      simp only [Bool.false_eq_true, if_false] at eb ⊢
      obtain ⟨z', e1, sb1⟩ := hF rfl
      refine ⟨z', acc, by omega, by omega, back sb1 h6, ?_⟩
      rw [← ez, fmS_step none (eb.trans e1)]; rfl
    | true =>
      simp only [if_true] at eb ⊢
      subst eb
      refine hT rfl σ3 H4 _ h6 nf' eo' fun tm s5 w H5 ⟨y, z', e0, e1, sb1⟩ h7 => ?_
      subst e0
      have hlt : acc.length < sizeLine := by
        have := it.sz
        omega
      obtain ⟨ws, w1, w2, w3⟩ := h7.wrTmp hlt
      refine ⟨ws, w1, by rw [w2]; exact hlt, z', acc ++ [y], by omega, by simp; omega, back sb1 w3, ?_⟩
      rw [← ez, fmS_step (some y) e1]; rfl
/-- one that changes nothing outside -/
theorem fmR_fmS {f : D → Res (Option D)} : ∀ (ds : List D), fmS ds () (fun _ d => rb (f d) fun o => .ok (o, ())) = rb (fmR ds f) fun q => .ok (q, ())
  | [] => rfl
  | d :: r => by
    show rb (rb (f d) _) _ = rb (rb (f d) _) _
    cases f d with
    | ok o =>
      show rb (fmS r () _) _ = rb (rb (fmR r f) _) _
      rw [fmR_fmS r]
      cases fmR r f with
      | ok q => cases o <;> rfl
      | err e => rfl
      | fail => rfl
    | err e => rfl
    | fail => rfl
theorem rt_true {tt : TT} {K : Bool → State → Res R → Prop} (e : tt = fun _ H Q => Q true H) (k : K true s m) : RT F tmp s m tt K := fun σ H Q hh _ _ q => by subst e; exact q true s H k hh

/-! a def -/
def st0 (n : Nat) (ts : List T) : State := ts.map some ++ List.replicate (n - ts.length) none
def outOk : Nat → List (Option T) → State → List Nat → Prop
  | _, [], _, _ => True
  | k, none :: r, s, p => outOk (k + 1) r s p
  | k, some u :: r, s, p => s[k]? = some (some u) ∧ k ∈ p ∧ outOk (k + 1) r s p
theorem outOk_get : ∀ {outs : List (Option T)} {k : Nat} {s : State} {p : List Nat}, outOk k outs s p → ∀ (j : Nat) (u : T), outs[j]? = some (some u) → s[k + j]? = some (some u) ∧ k + j ∈ p
  | [], _, _, _, _, j, u, e => by simp at e
  | none :: r, k, s, p, h, 0, u, e => by simp at e
  | none :: r, k, s, p, h, j + 1, u, e => by
    have := outOk_get (k := k + 1) (outs := r) h j u (by simpa using e)
    rwa [show k + (j + 1) = k + 1 + j by omega]
  | some x :: r, k, s, p, h, 0, u, e => by simp at e; subst e; exact ⟨h.1, h.2.1⟩
  | some x :: r, k, s, p, h, j + 1, u, e => by
    have := outOk_get (k := k + 1) (outs := r) h.2.2 j u (by simpa using e)
    rwa [show k + (j + 1) = k + 1 + j by omega]
def rEnd {R : Type} (er : R → T) (eo : R → List (Option T)) (pins : List Nat) : Rr R := fun t s' m' => ∃ r, m' = .ok r ∧ t = er r ∧ outOk 0 (eo r) s' pins
theorem fn_body {A : Type} {ec : Nat → Addr} {ea : A → List T} {mir : A → Res R} {er : R → T} {eo : R → List (Option T)} {K : PySem.W.Frag} {N : List Str} {vs : List V} {H : Hp} {Q : VK} {E : XK} {t : TS} (pins : List Nat) (hn : ∀ a, (ea a).length ≤ N.length) (hpin : ∀ a, ∀ k ∈ pins, k < (ea a).length)
    (h : spOf ec ea mir er eo vs H Q E)
    (rd : ∀ (F : Fc) (a : A), F.ec = ec → F.E = E → F.K = K → (∀ k, k ∉ pins → F.pv k = none) → RS F [] (st0 N.length (ea a)) (mir a) t (fun s' m' => rEnd er eo pins (.f .non) s' m') (rEnd er eo pins)) :
    t { nx := fun _ H' => Q .non H', rt := Q } (L2.start N vs) H := by
  obtain ⟨a, G, w, g1, g2, hl, ha, nf, hq, he⟩ := h
  let F : Fc := ⟨K, G, H, w, E, ec, fun k => if k ∈ pins then vs[k]? else none⟩
  have hnn := hn a
  have h0 : Holds F [] (st0 N.length (ea a)) (L2.start N vs) H := by
    refine ⟨G, w, ⟨Same.refl _, g1, fun a o e => .inl e, fun a o e _ => e, fun a o e => ⟨o, e⟩, fun x p e => ⟨(g2 x p e).1, (g2 x p e).2, .inr (by show (w x).isSome = true; rw [e]; rfl)⟩, ?_, fun i u e => ?_, trivial, fun k v e => ?_⟩⟩
    · simp [L2.start, st0, hl]
    · unfold st0 at e
      by_cases hi : i < (ea a).length
      · rw [List.getElem?_append_left (by simpa using hi), List.getElem?_map] at e
        cases e2 : (ea a)[i]? with
        | none => rw [e2] at e; cases e
        | some y =>
          rw [e2] at e
          cases e
          obtain ⟨u', e3, e4⟩ := ha i _ e2
          refine ⟨u', ?_, e4⟩
          unfold L2.start
          rw [List.getElem?_append_left (by simp [hl, hi]), List.getElem?_map, e3]; rfl
      · rw [List.getElem?_append_right (by simp; omega), List.getElem?_replicate] at e
        split at e <;> cases e
    · have e' : (if k ∈ pins then vs[k]? else none) = some v := e
      split at e'
      · unfold L2.start
        rw [List.getElem?_append_left (by simp; exact (List.getElem?_eq_some_iff.mp e').1), List.getElem?_map, e']; rfl
      · cases e'
  have fin : ∀ t s' v σ' H', rEnd er eo pins t s' (mir a) → Holds F [(v, .own t)] s' σ' H' → Q v H' := fun t s' v σ' H' ⟨r, e1, e2, e3⟩ h1 => by
    subst e2
    obtain ⟨G', ω, h1⟩ := h1
    refine hq r v H' e1 ⟨G', rl ω (fun l => match l with | 1 :: 0 :: x => some (2 :: x) | l => some l), ⟨h1.g0, h1.gH, h1.gn, h1.fr, h1.ex⟩, fun x p e => ?_, ?_, fun k u e => ?_⟩
    · obtain ⟨p', e4, _⟩ := rl_some e
      exact h1.wg x p' e4
    · exact Own.rl h1.tm.1 fun x => by simp
    · obtain ⟨e4, e5⟩ := outOk_get e3 k u e
      rw [Nat.zero_add] at e4 e5
      obtain ⟨y, e6, e7⟩ := h1.sl k u e4
      have hk : k < vs.length := by rw [hl]; exact hpin a k e5
      have hp : F.pv k = some vs[k] := by
        show (if k ∈ pins then vs[k]? else none) = _
        rw [if_pos e5, List.getElem?_eq_getElem hk]
      have := h1.pn k _ hp
      rw [e6] at this
      cases this
      exact ⟨_, List.getElem?_eq_getElem hk, Own.rl e7 fun x => by simp⟩
  exact rd F a rfl rfl rfl (fun k hk => by show (if k ∈ pins then vs[k]? else none) = none; rw [if_neg hk]) _ _ _ h0 nf (fun e ee od H' ⟨G', a1, a2, a3, a4, a5, a6⟩ => he e od H' ee ⟨G', ⟨a1, a2, a3, a4, a5⟩, a6⟩) (fun s' σ' H' hk h1 => fin (.f .non) s' .non σ' H' hk (holds_push (d := .non) (v := .non) h1 fun _ => rfl)) fin
end
end VL

namespace VL
open PySem L2
variable [EC]

/-! what stands at a temporary -/
def RepC (G H : Hp) : D → V → Prop
  | .lst l, v => ∃ a vs, v = .ref a ∧ Rd H a (.lst vs) ∧ l.length ≤ sizeLine ∧ Reps G l vs
  | .tup l, v => ∃ a vs, v = .ref a ∧ H a = some (.tup vs) ∧ l.length ≤ sizeLine ∧ Reps G l vs
  | .dct false l, v => ∃ a kvs, v = .ref a ∧ Rd H a (.dK kvs) ∧ RepK G l kvs
  | .dct true l, v => ∃ a ep xs, v = .ref a ∧ H a = some (exN EC.wd a ep xs) ∧ NDg a xs ∧ RepX G l xs
  | d, v => Rep G d v
def valT (s : State) (tm : TM) : Option D := (treeAt s tm).map T.er
def valS (s : State) (tm : TM) : Option D := match treeAt s tm with
  | some (.f d) => some d
  | some (.l ds) => some (.lst ds)
  | some (.dc k l) => some (.dct k l)
  | _ => none
section
variable {F : Fc} {G H H' : Hp} {ω : Addr → Option Lab} {tmp : Tmp} {s : State} {σ : St} {v : V} {t : T} {d : D}
theorem Rep.toC (sm : Same G H) : ∀ {d : D} {v : V}, Rep G d v → RepC G H d v
  | .exc _ _, _, h => h
  | .fd _ _ _, _, h => h
  | .fz _, _, h => h
  | .non, _, h => h
  | .bl _, _, h => h
  | .int _, _, h => h
  | .str _, _, h => h
  | .opq _, _, h => h
  | .lst _, _, ⟨a, vs, e, r, z, q⟩ => ⟨a, vs, e, Same.rd sm r, z, q⟩
  | .tup _, _, ⟨a, vs, e, r, z, q⟩ => ⟨a, vs, e, sm _ _ r, z, q⟩
  | .dct false _, _, ⟨a, kvs, e, r, q⟩ => ⟨a, kvs, e, Same.rd sm r, q⟩
  | .dct true _, _, ⟨a, ep, xs, e, r, q⟩ => ⟨a, ep, xs, e, sm _ _ r, q⟩
theorem RepC.toR (sm : Same G H) : ∀ {d : D} {v : V}, RepC G H d v → Rep H d v
  | .exc _ _, _, h => Rep.mono sm _ _ h
  | .fd _ _ _, _, h => Rep.mono sm _ _ h
  | .fz _, _, h => Rep.mono sm _ _ h
  | .non, _, h => h
  | .bl _, _, h => h
  | .int _, _, h => h
  | .str _, _, h => h
  | .opq _, _, h => h
  | .lst l, _, ⟨a, vs, e, r, z, q⟩ => ⟨a, vs, e, r, z, Reps.mono sm _ _ q⟩
  | .tup l, _, ⟨a, vs, e, r, z, q⟩ => ⟨a, vs, e, r, z, Reps.mono sm _ _ q⟩
  | .dct false l, _, ⟨a, kvs, e, r, q⟩ => ⟨a, kvs, e, r, RepK.mono sm _ _ q⟩
  | .dct true l, _, ⟨a, ep, xs, e, r, g, q⟩ => ⟨a, ep, xs, e, r, g, RepX.mono sm _ _ q⟩
theorem Hd.tree (h : Hd F G ω tmp s σ H) {p : Lab} {tm : TM} (ok : TmOk G H ω σ p tm v) (e : treeAt s tm = some t) : ∃ q, Own G H ω q t v := by
  cases tm with
  | own t' => cases e; exact ⟨p, ok⟩
  | ali i =>
    have ok' : σ[i]? = some (some v) := ok
    cases e5 : s[i]? with
    | none => simp [treeAt, e5] at e
    | some x =>
      simp [treeAt, e5] at e
      subst e
      obtain ⟨v', a, b⟩ := h.sl i t e5
      rw [ok'] at a
      cases a
      exact ⟨_, b⟩
theorem Hd.repT (h : Hd F G ω tmp s σ H) {p : Lab} {tm : TM} (ok : TmOk G H ω σ p tm v) (e : valT s tm = some d) : Rep H d v := by
  unfold valT at e
  cases e2 : treeAt s tm with
  | none => rw [e2] at e; cases e
  | some t =>
    rw [e2] at e
    cases e
    obtain ⟨q, o⟩ := h.tree ok e2
    exact Own.rep h.gH q t v (fun a x _ o ho => ho) o
theorem Hd.repC (h : Hd F G ω tmp s σ H) {p : Lab} {tm : TM} (ok : TmOk G H ω σ p tm v) (e : valS s tm = some d) : RepC G H d v := by
  unfold valS at e
  cases e2 : treeAt s tm with
  | none => rw [e2] at e; cases e
  | some t =>
    rw [e2] at e
    obtain ⟨q, o⟩ := h.tree ok e2
    cases t with
    | f d' => cases e; exact Rep.toC h.gH o
    | l ds => cases e; obtain ⟨a, vs, e, r, w, z, q⟩ := o; exact ⟨a, vs, e, .inl r, z, q⟩
    | dc k l =>
      cases e
      cases k with
      | false => obtain ⟨a, kvs, e, w, r, q⟩ := o; exact ⟨a, kvs, e, .inl r, q⟩
      | true => obtain ⟨a, ep, xs, e, w, r⟩ := o; exact ⟨a, ep, xs, e, r⟩
    | ll ts => cases e
    | tt ts => cases e
    | dl ks ts => cases e
    | nx _ _ _ => cases e
    | no _ _ _ => cases e
    | ob _ _ _ => cases e
    | hole w => cases e
    | lf l => cases e
end
theorem holds_bl {F : Fc} {tmp : Tmp} {s : State} {σ : St} {H : Hp} {b : Bool} (h : Holds F tmp s σ H) : Holds F ((.bl b, .own (.f (.bl b))) :: tmp) s σ H := holds_push (d := .bl b) (v := .bl b) h fun _ => rfl
def Op2C (r : R2) (op : D → D → Option D) : Prop := ∀ G H x y a b c Q, Same G H → RepC G H a x → RepC G H b y → op a b = some c → (∀ v, Rep G c v → Q v H) → r x y H Q
def Op2L (r : R2) (op : D → D → Option (List D)) : Prop := ∀ G H x y a b c Q, Same G H → RepC G H a x → RepC G H b y → op a b = some c → c.length ≤ sizeLine ∧ ((∀ p vs, H p = none → Reps G c vs → Q (.ref p) (upd H p (.lst vs))) → r x y H Q)
def Op2B (r : R2) (op : D → D → Option Bool) : Prop := ∀ H x y a b c Q, Rep H a x → Rep H b y → op a b = some c → Q (.bl c) H → r x y H Q
def Op1C (r : V → Hp → VK → Prop) (op : D → Option D) : Prop := ∀ G H x a c Q, Same G H → RepC G H a x → op a = some c → (∀ v, Rep G c v → Q v H) → r x H Q
def Op1L (r : V → Hp → VK → Prop) (op : D → Option (List D)) : Prop := ∀ G H x a c Q, Same G H → RepC G H a x → op a = some c → c.length ≤ sizeLine ∧ ((∀ p vs, H p = none → Reps G c vs → Q (.ref p) (upd H p (.lst vs))) → r x H Q)
section
variable {R : Type} {F : Fc} {tmp : Tmp} {s : State} {m : Res R} {K : Rs R} {N : Rn R} {Rt : Rr R} {ta tb : TE}
theorem rd_op2 {r : R2} {op : D → D → Option D} (ho : Op2C r op) (h : RD F tmp s ta m (fun tm1 s1 m1 => ∀ x, RD F ((x, tm1) :: tmp) s1 tb m1 (fun tm2 s2 m2 => ∃ a b k, valS s2 tm1 = some a ∧ valS s2 tm2 = some b ∧ m2 = ob (op a b) k ∧ ∀ c, K (.own (.f c)) s2 (k c)))) : RD F tmp s (tOp r ta tb) m K := fun σ H Q hh nf eo q =>
  h σ H _ hh nf eo fun tm1 s1 x H1 h2 h1 => h2 x σ H1 _ h1 nf eo fun tm2 s2 y H2 ⟨a, b, k, ea, eb, em, hk⟩ h3 => by
    obtain ⟨c, ec, em'⟩ := ob_cases (by rw [← em]; exact nf)
    obtain ⟨G, ω, h3⟩ := h3
    exact ho G H2 x y a b c Q h3.gH (h3.repC h3.tm.2.1 ea) (h3.repC h3.tm.1 eb) ec fun v rv => q _ s2 v H2 (by rw [em, em']; exact hk c) ⟨G, ω, h3.pop.pop.pushF rv⟩
theorem rd_op2L {r : R2} {op : D → D → Option (List D)} (ho : Op2L r op) (h : RD F tmp s ta m (fun tm1 s1 m1 => ∀ x, RD F ((x, tm1) :: tmp) s1 tb m1 (fun tm2 s2 m2 => ∃ a b k, valS s2 tm1 = some a ∧ valS s2 tm2 = some b ∧ m2 = ob (op a b) k ∧ ∀ c, K (.own (.l c)) s2 (k c)))) : RD F tmp s (tOp r ta tb) m K := fun σ H Q hh nf eo q =>
  h σ H _ hh nf eo fun tm1 s1 x H1 h2 h1 => h2 x σ H1 _ h1 nf eo fun tm2 s2 y H2 ⟨a, b, k, ea, eb, em, hk⟩ h3 => by
    obtain ⟨c, ec, em'⟩ := ob_cases (by rw [← em]; exact nf)
    obtain ⟨G, ω, h3⟩ := h3
    obtain ⟨z, ho⟩ := ho G H2 x y a b c Q h3.gH (h3.repC h3.tm.2.1 ea) (h3.repC h3.tm.1 eb) ec
    exact ho fun p vs np rv => q _ s2 _ _ (by rw [em, em']; exact hk c) (h3.pop.pop.newL np z rv)
theorem rd_op2B {r : R2} {op : D → D → Option Bool} (ho : Op2B r op) (h : RD F tmp s ta m (fun tm1 s1 m1 => ∀ x, RD F ((x, tm1) :: tmp) s1 tb m1 (fun tm2 s2 m2 => ∃ a b k, valT s2 tm1 = some a ∧ valT s2 tm2 = some b ∧ m2 = ob (op a b) k ∧ ∀ c, K (.own (.f (.bl c))) s2 (k c)))) : RD F tmp s (tOp r ta tb) m K := fun σ H Q hh nf eo q =>
  h σ H _ hh nf eo fun tm1 s1 x H1 h2 h1 => h2 x σ H1 _ h1 nf eo fun tm2 s2 y H2 ⟨a, b, k, ea, eb, em, hk⟩ h3 => by
    obtain ⟨c, ec, em'⟩ := ob_cases (by rw [← em]; exact nf)
    have h4 := h3
    obtain ⟨G, ω, h3⟩ := h3
    exact ho H2 x y a b c Q (h3.repT h3.tm.2.1 ea) (h3.repT h3.tm.1 eb) ec (q _ s2 _ H2 (by rw [em, em']; exact hk c) (holds_bl h4.pop.pop))
theorem rd_un {r : V → Hp → VK → Prop} {op : D → Option D} (ho : Op1C r op) (h : RD F tmp s ta m (fun tm1 s1 m1 => ∃ a k, valS s1 tm1 = some a ∧ m1 = ob (op a) k ∧ ∀ c, K (.own (.f c)) s1 (k c))) : RD F tmp s (tUn r ta) m K := fun σ H Q hh nf eo q =>
  h σ H _ hh nf eo fun tm1 s1 x H1 ⟨a, k, ea, em, hk⟩ h1 => by
    obtain ⟨c, ec, em'⟩ := ob_cases (by rw [← em]; exact nf)
    obtain ⟨G, ω, h1⟩ := h1
    exact ho G H1 x a c Q h1.gH (h1.repC h1.tm.1 ea) ec fun v rv => q _ s1 v H1 (by rw [em, em']; exact hk c) ⟨G, ω, h1.pop.pushF rv⟩
/-- a built-in of one argument -/
theorem rd_cb1 {r : List V → Hp → VK → Prop} {op : D → Option D} (ho : Op1C (fun x H Q => r [x] H Q) op) (h : RD F tmp s ta m (fun tm1 s1 m1 => ∃ a k, valS s1 tm1 = some a ∧ m1 = ob (op a) k ∧ ∀ c, K (.own (.f c)) s1 (k c))) : RD F tmp s (tCB r (tCons ta tNil)) m K := fun σ H Q hh nf eo q =>
  h σ H _ hh nf eo fun tm1 s1 x H1 ⟨a, k, ea, em, hk⟩ h1 => by
    obtain ⟨c, ec, em'⟩ := ob_cases (by rw [← em]; exact nf)
    obtain ⟨G, ω, h1⟩ := h1
    exact ho G H1 x a c Q h1.gH (h1.repC h1.tm.1 ea) ec fun v rv => q _ s1 v H1 (by rw [em, em']; exact hk c) ⟨G, ω, h1.pop.pushF rv⟩
theorem rd_cb1L {r : List V → Hp → VK → Prop} {op : D → Option (List D)} (ho : Op1L (fun x H Q => r [x] H Q) op) (h : RD F tmp s ta m (fun tm1 s1 m1 => ∃ a k, valS s1 tm1 = some a ∧ m1 = ob (op a) k ∧ ∀ c, K (.own (.l c)) s1 (k c))) : RD F tmp s (tCB r (tCons ta tNil)) m K := fun σ H Q hh nf eo q =>
  h σ H _ hh nf eo fun tm1 s1 x H1 ⟨a, k, ea, em, hk⟩ h1 => by
    obtain ⟨c, ec, em'⟩ := ob_cases (by rw [← em]; exact nf)
    obtain ⟨G, ω, h1⟩ := h1
    obtain ⟨z, ho⟩ := ho G H1 x a c Q h1.gH (h1.repC h1.tm.1 ea) ec
    exact ho fun p vs np rv => q _ s1 _ _ (by rw [em, em']; exact hk c) (h1.pop.newL np z rv)
theorem rd_cb2 {r : List V → Hp → VK → Prop} {op : D → D → Option D} (ho : Op2C (fun x y H Q => r [x, y] H Q) op) (h : RD F tmp s ta m (fun tm1 s1 m1 => ∀ x, RD F ((x, tm1) :: tmp) s1 tb m1 (fun tm2 s2 m2 => ∃ a b k, valS s2 tm1 = some a ∧ valS s2 tm2 = some b ∧ m2 = ob (op a b) k ∧ ∀ c, K (.own (.f c)) s2 (k c)))) : RD F tmp s (tCB r (tCons ta (tCons tb tNil))) m K :=
  rd_op2 ho h
/-! tests -/
def asB : D → Option Bool | .bl b => some b | _ => none
def asI : D → Option Int | .int i => some i | _ => none
theorem rt_val {K : Bool → State → Res R → Prop} (h : RD F tmp s ta m (fun tm s1 m1 => ∃ d k, valS s1 tm = some d ∧ m1 = ob (asB d) k ∧ ∀ c, K c s1 (k c))) : RT F tmp s m (tB ta) K := fun σ H Q hh nf eo q =>
  h σ H _ hh nf eo fun tm s1 x H1 ⟨d, k, ea, em, hk⟩ h1 => by
    obtain ⟨c, ec, em'⟩ := ob_cases (by rw [← em]; exact nf)
    have h2 := h1
    obtain ⟨G, ω, h1⟩ := h1
    have r := h1.repC h1.tm.1 ea
    cases d <;> first | cases ec | skip
    exact ⟨_, r, q _ s1 H1 (by rw [em, em']; exact hk _) h2.pop⟩
theorem rt_op2B {r : R2} {op : D → D → Option Bool} {K : Bool → State → Res R → Prop} (ho : Op2B r op) (h : RD F tmp s ta m (fun tm1 s1 m1 => ∀ x, RD F ((x, tm1) :: tmp) s1 tb m1 (fun tm2 s2 m2 => ∃ a b k, valT s2 tm1 = some a ∧ valT s2 tm2 = some b ∧ m2 = ob (op a b) k ∧ ∀ c, K c s2 (k c)))) : RT F tmp s m (tTest (tOp r ta tb)) K := fun σ H Q hh nf eo q =>
  h σ H _ hh nf eo fun tm1 s1 x H1 h2 h1 => h2 x σ H1 _ h1 nf eo fun tm2 s2 y H2 ⟨a, b, k, ea, eb, em, hk⟩ h3 => by
    obtain ⟨c, ec, em'⟩ := ob_cases (by rw [← em]; exact nf)
    have h4 := h3
    obtain ⟨G, ω, h3⟩ := h3
    exact ho H2 x y a b c _ (h3.repT h3.tm.2.1 ea) (h3.repT h3.tm.1 eb) ec ⟨c, rfl, q _ s2 H2 (by rw [em, em']; exact hk c) h4.pop.pop⟩
theorem rt_not {t : TT} {K : Bool → State → Res R → Prop} (h : RT F tmp s m t (fun b s1 m1 => K (!b) s1 m1)) : RT F tmp s m (tNot t) K := fun σ H Q hh nf eo q => h σ H _ hh nf eo fun b s1 H1 hk h1 => q _ s1 H1 hk h1
theorem rt_and {Z : Type} {t u : TT} {K : Bool → State → Res R → Prop} (h : RT F tmp s m t (fun b s1 m1 => ∃ (S : Z → State) (z0 : Z) (ma : Res (Bool × Z)) (k : Bool × Z → Res R), m1 = rb (if b = true then ma else .ok (false, z0)) k ∧ Sub s1 (S z0) ∧
      (b = true → RT F tmp s1 ma u (fun c s2 m2 => ∃ z, m2 = .ok (c, z) ∧ Sub s2 (S z))) ∧ ∀ p : Bool × Z, K p.1 (S p.2) (k p))) : RT F tmp s m (tAnd t u) K := fun σ H Q hh nf eo q =>
  h σ H _ hh nf eo fun b s1 H1 ⟨S, z0, ma, k, em, sb, hu, hk⟩ h1 => by
    cases b with
    | false =>
      simp only [Bool.false_eq_true, if_false] at em ⊢
      exact q false _ H1 (by rw [em]; exact hk (false, z0)) (h1.sub sb)
    | true =>
      simp only [if_true] at em ⊢
      have nf' : ma ≠ .fail := fun z => nf (by rw [em, z]; rfl)
      refine hu rfl σ H1 _ h1 nf' (eo.of fun e he => by rw [em, he]; rfl) fun c s2 H2 ⟨z, e1, sb2⟩ h2 => ?_
      exact q c _ H2 (by rw [em, e1]; exact hk (c, z)) (h2.sub sb2)
theorem rt_or {Z : Type} {t u : TT} {K : Bool → State → Res R → Prop} (h : RT F tmp s m t (fun b s1 m1 => ∃ (S : Z → State) (z0 : Z) (ma : Res (Bool × Z)) (k : Bool × Z → Res R), m1 = rb (if b = true then .ok (true, z0) else ma) k ∧ Sub s1 (S z0) ∧
      (b = false → RT F tmp s1 ma u (fun c s2 m2 => ∃ z, m2 = .ok (c, z) ∧ Sub s2 (S z))) ∧ ∀ p : Bool × Z, K p.1 (S p.2) (k p))) : RT F tmp s m (tOr t u) K := fun σ H Q hh nf eo q =>
  h σ H _ hh nf eo fun b s1 H1 ⟨S, z0, ma, k, em, sb, hu, hk⟩ h1 => by
    cases b with
    | true =>
      simp only [if_true] at em ⊢
      exact q true _ H1 (by rw [em]; exact hk (true, z0)) (h1.sub sb)
    | false =>
      simp only [Bool.false_eq_true, if_false] at em ⊢
      have nf' : ma ≠ .fail := fun z => nf (by rw [em, z]; rfl)
      refine hu rfl σ H1 _ h1 nf' (eo.of fun e he => by rw [em, he]; rfl) fun c s2 H2 ⟨z, e1, sb2⟩ h2 => ?_
      exact q c _ H2 (by rw [em, e1]; exact hk (c, z)) (h2.sub sb2)
/-! and, or, not as values -/
theorem rd_andV {Z : Type} (h : RD F tmp s ta m (fun tm s1 m1 => ∃ d kk, valS s1 tm = some d ∧ m1 = ob (asB d) kk ∧ ∀ b, ∃ (S : Z → State) (z0 : Z) (ma : Res (D × Z)) (k : D × Z → Res R), kk b = rb (if b = true then ma else .ok (.bl false, z0)) k ∧ Sub s1 (S z0) ∧
      (b = true → RD F tmp s1 tb ma (fun tm2 s2 m2 => ∃ d2 z, tm2 = .own (.f d2) ∧ m2 = .ok (d2, z) ∧ Sub s2 (S z))) ∧ ∀ p : D × Z, K (.own (.f p.1)) (S p.2) (k p))) : RD F tmp s (tAndV ta tb) m K := fun σ H Q hh nf eo q =>
  h σ H _ hh nf eo fun tm s1 x H1 ⟨d, kk, ea, em0, hb⟩ h1 => by
    obtain ⟨b, ec, em'⟩ := ob_cases (by rw [← em0]; exact nf)
    have h2 := h1
    obtain ⟨G, ω, h1⟩ := h1
    have r := h1.repC h1.tm.1 ea
    cases d <;> first | cases ec | skip
    refine ⟨_, r, ?_⟩
    obtain ⟨S, z0, ma, k, em, sb, hu, hk⟩ := hb b
    rw [← em', ← em0] at em
    cases b with
    | false =>
      simp only [Bool.false_eq_true, if_false] at em ⊢
      exact q _ _ _ H1 (by rw [em]; exact hk (_, z0)) (holds_bl (h2.pop.sub sb))
    | true =>
      simp only [if_true] at em ⊢
      have nf' : ma ≠ .fail := fun z => nf (by rw [em, z]; rfl)
      refine hu rfl σ H1 _ h2.pop nf' (eo.of fun e he => by rw [em, he]; rfl) fun tm2 s2 y H2 ⟨d2, z, e0, e1, sb2⟩ h3 => ?_
      subst e0
      exact q _ _ y H2 (by rw [em, e1]; exact hk (d2, z)) (h3.sub sb2)
/-! displays -/
def frozs : List TM → Option (List D)
  | [] => some []
  | .own (.f d) :: r => (frozs r).map (d :: ·)
  | _ :: _ => none
theorem frozs_reps {G H : Hp} {ω : Addr → Option Lab} {σ : St} : ∀ (vs : List V) (tms : List TM) (tmp : Tmp) (ds : List D), vs.length = tms.length → frozs tms = some ds → Tms G H ω σ (pushes vs tms tmp) → Tms G H ω σ tmp ∧ Reps G ds vs := fun vs tms tmp ds hl hf ht => by
  obtain ⟨h0, h1⟩ := Tms.args vs tms tmp hl ht
  refine ⟨h0, ?_⟩
  have key : ∀ (tms : List TM) (ds : List D), frozs tms = some ds → ds.length = tms.length ∧ ∀ (k : Nat) d, ds[k]? = some d → tms[k]? = some (.own (.f d)) := by
    intro tms
    induction tms with
    | nil => intro ds h; cases h; exact ⟨rfl, fun k d e => by simp at e⟩
    | cons tm r ih =>
      intro ds h
      cases tm with
      | ali i => cases h
      | own t =>
        cases t <;> try (simp [frozs] at h; done)
        rename_i d0
        cases e : frozs r with
        | none => simp [frozs, e] at h
        | some ds' =>
          simp [frozs, e] at h
          subst h
          obtain ⟨a, b⟩ := ih ds' e
          refine ⟨by simp [a], fun k d e2 => ?_⟩
          cases k with
          | zero => simp at e2; subst e2; rfl
          | succ k => simpa using b k d (by simpa using e2)
  obtain ⟨k1, k2⟩ := key tms ds hf
  refine Reps.of (by rw [k1, hl]) fun i d v e1 e2 => ?_
  obtain ⟨w, w1, w2⟩ := h1 i _ (k2 i d e1)
  rw [e2] at w1; cases w1
  exact w2
theorem rd_lst {t : TA} (h : RA F tmp s m t (fun tms s1 m1 => ∃ ds, frozs tms = some ds ∧ ds.length ≤ 1000 ∧ K (.own (.l ds)) s1 m1)) : RD F tmp s (tLst t) m K := fun σ H Q hh nf eo q =>
  h σ H _ hh nf eo fun tms s1 vs H1 ⟨ds, hf, hz, hk⟩ hl h1 => by
    obtain ⟨G, ω, h2⟩ := h1
    obtain ⟨t0, r⟩ := frozs_reps vs tms tmp ds hl hf h2.tm
    have h3 : Hd F G ω tmp s1 σ H1 := { h2 with tm := t0 }
    have z : ds.length ≤ sizeLine := by rw [sizeLine_eq]; omega
    exact ⟨by rw [← r.length]; exact z, fun p hp => q _ s1 _ _ hk (h3.newL hp z r)⟩
theorem rd_tup {t : TA} (h : RA F tmp s m t (fun tms s1 m1 => ∃ ds, frozs tms = some ds ∧ ds.length ≤ 1000 ∧ K (.own (.f (.tup ds))) s1 m1)) : RD F tmp s (tTup t) m K := fun σ H Q hh nf eo q =>
  h σ H _ hh nf eo fun tms s1 vs H1 ⟨ds, hf, hz, hk⟩ hl h1 => by
    obtain ⟨G, ω, h2⟩ := h1
    obtain ⟨t0, r⟩ := frozs_reps vs tms tmp ds hl hf h2.tm
    have h3 : Hd F G ω tmp s1 σ H1 := { h2 with tm := t0 }
    have z : ds.length ≤ sizeLine := by rw [sizeLine_eq]; omega
    exact ⟨by rw [← r.length]; exact z, fun p hp => q _ s1 _ _ hk (h3.newT hp z r)⟩
end
end VL

namespace VL
open PySem L2 PySem.SeqAt
variable [EC]

theorem mkS_beq (a b : List Nat) : (mkS a == mkS b) = (a == b) := by
  by_cases h : a = b
  · subst h; simp
  · have h2 : ¬ mkS a = mkS b := fun z => h (mkS_inj z)
    rw [beq_eq_false_iff_ne.mpr h]
    exact beq_eq_false_iff_ne.mpr h2
/-! == -/
mutual
def D.eqv : D → D → Bool
  | .non, .non => true
  | .bl a, .bl b => a == b
  | .bl a, .int b => (if a then 1 else 0) == b
  | .int a, .bl b => a == (if b then 1 else 0)
  | .int a, .int b => a == b
  | .str a, .str b => a == b
  | .tup a, .tup b => D.eqvs a b
  | .lst a, .lst b => D.eqvs a b
  | _, _ => false
def D.eqvs : List D → List D → Bool
  | [], [] => true
  | a :: r, b :: q => D.eqv a b && D.eqvs r q
  | _, _ => false
end
mutual
def D.plain : D → Bool
  | .tup l => D.plains l
  | .lst l => D.plains l
  | .dct _ _ => false
  | .opq _ => false
  | .exc _ _ => false
  | .fd _ _ _ => false
  | .fz _ => false
  | .non => true
  | .bl _ => true
  | .int _ => true
  | .str _ => true
def D.plains : List D → Bool
  | [] => true
  | a :: r => D.plain a && D.plains r
end
mutual
def D.dep : D → Nat
  | .tup l => D.deps l + 1
  | .lst l => D.deps l + 1
  | .dct _ _ => 0
  | .opq _ => 0
  | .exc _ _ => 0
  | .fd _ _ _ => 0
  | .fz _ => 0
  | .non => 0
  | .bl _ => 0
  | .int _ => 0
  | .str _ => 0
def D.deps : List D → Nat
  | [] => 0
  | a :: r => max (D.dep a) (D.deps r)
end
theorem rd_inj {H : Hp} {a : Addr} {o u : List V} (h : Rd H a (.lst o)) (q : Rd H a (.lst u)) : o = u := by
  rcases h with h | ⟨_, h⟩ <;> rcases q with q | ⟨_, q⟩ <;> (rw [h] at q; first | (cases q; done) | (cases q; rfl))
mutual
theorem rep_inj {H : Hp} : ∀ (a b : D) (v : V), a.plain = true → b.plain = true → Rep H a v → Rep H b v → a = b

  | .non, .non, _, _, _, _, _ => rfl
  | .non, .bl y, v, _, _, h, q => by have e := (show v = .non from h).symm.trans (show v = .bl y from q); cases e
  | .non, .int y, v, _, _, h, q => by have e := (show v = .non from h).symm.trans (show v = .int y from q); cases e
  | .non, .str y, v, _, _, h, q => by have e := (show v = .non from h).symm.trans (show v = .str (mkS y) from q); cases e
  | .non, .tup l, v, _, _, h, ⟨_, _, e, _⟩ => by have e2 := (show v = .non from h).symm.trans e; cases e2
  | .non, .lst l, v, _, _, h, ⟨_, _, e, _⟩ => by have e2 := (show v = .non from h).symm.trans e; cases e2
  | .bl x, .non, v, _, _, h, q => by have e := (show v = .bl x from h).symm.trans (show v = .non from q); cases e
  | .bl x, .bl y, v, _, _, h, q => by
    have e := (show v = .bl x from h).symm.trans (show v = .bl y from q)
    injection e with e
    rw [e]
  | .bl x, .int y, v, _, _, h, q => by have e := (show v = .bl x from h).symm.trans (show v = .int y from q); cases e
  | .bl x, .str y, v, _, _, h, q => by have e := (show v = .bl x from h).symm.trans (show v = .str (mkS y) from q); cases e
  | .bl x, .tup l, v, _, _, h, ⟨_, _, e, _⟩ => by have e2 := (show v = .bl x from h).symm.trans e; cases e2
  | .bl x, .lst l, v, _, _, h, ⟨_, _, e, _⟩ => by have e2 := (show v = .bl x from h).symm.trans e; cases e2
  | .int x, .non, v, _, _, h, q => by have e := (show v = .int x from h).symm.trans (show v = .non from q); cases e
  | .int x, .bl y, v, _, _, h, q => by have e := (show v = .int x from h).symm.trans (show v = .bl y from q); cases e
  | .int x, .int y, v, _, _, h, q => by
    have e := (show v = .int x from h).symm.trans (show v = .int y from q)
    injection e with e
    rw [e]
  | .int x, .str y, v, _, _, h, q => by have e := (show v = .int x from h).symm.trans (show v = .str (mkS y) from q); cases e
  | .int x, .tup l, v, _, _, h, ⟨_, _, e, _⟩ => by have e2 := (show v = .int x from h).symm.trans e; cases e2
  | .int x, .lst l, v, _, _, h, ⟨_, _, e, _⟩ => by have e2 := (show v = .int x from h).symm.trans e; cases e2
  | .str x, .non, v, _, _, h, q => by have e := (show v = .str (mkS x) from h).symm.trans (show v = .non from q); cases e
  | .str x, .bl y, v, _, _, h, q => by have e := (show v = .str (mkS x) from h).symm.trans (show v = .bl y from q); cases e
  | .str x, .int y, v, _, _, h, q => by have e := (show v = .str (mkS x) from h).symm.trans (show v = .int y from q); cases e
  | .str x, .str y, v, _, _, h, q => by
    have e := (show v = .str (mkS x) from h).symm.trans (show v = .str (mkS y) from q)
    injection e with e
    rw [mkS_inj e]
  | .str x, .tup l, v, _, _, h, ⟨_, _, e, _⟩ => by have e2 := (show v = .str (mkS x) from h).symm.trans e; cases e2
  | .str x, .lst l, v, _, _, h, ⟨_, _, e, _⟩ => by have e2 := (show v = .str (mkS x) from h).symm.trans e; cases e2
  | .tup l, .non, v, _, _, ⟨_, _, e, _⟩, q => by have e2 := e.symm.trans (show v = .non from q); cases e2
  | .tup l, .bl y, v, _, _, ⟨_, _, e, _⟩, q => by have e2 := e.symm.trans (show v = .bl y from q); cases e2
  | .tup l, .int y, v, _, _, ⟨_, _, e, _⟩, q => by have e2 := e.symm.trans (show v = .int y from q); cases e2
  | .tup l, .str y, v, _, _, ⟨_, _, e, _⟩, q => by have e2 := e.symm.trans (show v = .str (mkS y) from q); cases e2
  | .lst l, .non, v, _, _, ⟨_, _, e, _⟩, q => by have e2 := e.symm.trans (show v = .non from q); cases e2
  | .lst l, .bl y, v, _, _, ⟨_, _, e, _⟩, q => by have e2 := e.symm.trans (show v = .bl y from q); cases e2
  | .lst l, .int y, v, _, _, ⟨_, _, e, _⟩, q => by have e2 := e.symm.trans (show v = .int y from q); cases e2
  | .lst l, .str y, v, _, _, ⟨_, _, e, _⟩, q => by have e2 := e.symm.trans (show v = .str (mkS y) from q); cases e2
  | .tup l, .tup m, v, p1, p2, ⟨a, vs, e, g, _, r⟩, ⟨a2, vs2, e2, g2, _, r2⟩ => by
    rw [e] at e2; cases e2; rw [g] at g2; cases g2
    rw [reps_inj l m vs p1 p2 r r2]
  | .lst l, .lst m, v, p1, p2, ⟨a, vs, e, g, _, r⟩, ⟨a2, vs2, e2, g2, _, r2⟩ => by
    rw [e] at e2; cases e2; cases rd_inj g g2
    rw [reps_inj l m vs p1 p2 r r2]
  | .tup l, .lst m, v, p1, p2, ⟨a, vs, e, g, _, r⟩, ⟨a2, vs2, e2, g2, _, r2⟩ => by
    rw [e] at e2; cases e2
    rcases g2 with g2 | ⟨_, g2⟩ <;> (rw [g] at g2; cases g2)
  | .lst l, .tup m, v, p1, p2, ⟨a, vs, e, g, _, r⟩, ⟨a2, vs2, e2, g2, _, r2⟩ => by
    rw [e] at e2; cases e2
    rcases g with g | ⟨_, g⟩ <;> (rw [g] at g2; cases g2)
  | .dct _ _, _, _, p, _, _, _ => by cases p
  | .opq _, _, _, p, _, _, _ => by cases p
  | .exc _ _, _, _, p, _, _, _ => by cases p
  | .fd _ _ _, _, _, p, _, _, _ => by cases p
  | .fz _, _, _, p, _, _, _ => by cases p
  | _, .dct _ _, _, _, p, _, _ => by cases p
  | _, .opq _, _, _, p, _, _ => by cases p
  | _, .exc _ _, _, _, p, _, _ => by cases p
  | _, .fd _ _ _, _, _, p, _, _ => by cases p
  | _, .fz _, _, _, p, _, _ => by cases p
theorem reps_inj {H : Hp} : ∀ (a b : List D) (v : List V), D.plains a = true → D.plains b = true → Reps H a v → Reps H b v → a = b
  | [], [], _, _, _, _, _ => rfl
  | [], _ :: _, _, _, _, h, ⟨_, _, e, _⟩ => by rw [show _ = [] from h] at e; cases e
  | _ :: _, [], _, _, _, ⟨_, _, e, _⟩, h => by rw [show _ = [] from h] at e; cases e
  | a :: r, b :: q, _, p1, p2, ⟨v, vs, e, h, k⟩, ⟨v2, vs2, e2, h2, k2⟩ => by
    simp only [D.plains, Bool.and_eq_true] at p1 p2
    rw [e] at e2; cases e2
    rw [rep_inj a b v p1.1 p2.1 h h2, reps_inj r q vs p1.2 p2.2 k k2]
end
mutual
theorem eqv_refl : ∀ a : D, a.plain = true → D.eqv a a = true
  | .non, _ => rfl
  | .bl b, _ => by simp [D.eqv]
  | .int b, _ => by simp [D.eqv]
  | .str b, _ => by simp [D.eqv]
  | .tup l, p => eqvs_refl l p
  | .lst l, p => eqvs_refl l p
  | .dct _ _, p => by cases p
  | .opq _, p => by cases p
  | .exc _ _, p => by cases p
  | .fd _ _ _, p => by cases p
  | .fz _, p => by cases p
theorem eqvs_refl : ∀ a : List D, D.plains a = true → D.eqvs a a = true
  | [], _ => rfl
  | a :: r, p => by
    simp only [D.plains, Bool.and_eq_true] at p
    simp only [D.eqvs, eqv_refl a p.1, eqvs_refl r p.2, Bool.and_self]
end
def eqAtJ (l m : List D) (j : Nat) : Bool := D.eqv (l.getD j .non) (m.getD j .non)
theorem all_range_succ (n : Nat) (f : Nat → Bool) : (List.range (n + 1)).all f = (f 0 && (List.range n).all fun j => f (j + 1)) := by
  rw [List.range_succ_eq_map, List.all_cons, List.all_map]; rfl
theorem eqvs_eq : ∀ l m : List D, ((List.range (min l.length m.length)).all (eqAtJ l m) && l.length == m.length) = D.eqvs l m
  | [], [] => rfl
  | [], _ :: _ => rfl
  | _ :: _, [] => rfl
  | a :: r, b :: q => by
    have ih := eqvs_eq r q
    rw [List.length_cons, List.length_cons, show min (r.length + 1) (q.length + 1) = min r.length q.length + 1 by omega, all_range_succ]
    show ((D.eqv a b && (List.range (min r.length q.length)).all fun j => eqAtJ r q j) && (r.length + 1 == q.length + 1)) = (D.eqv a b && D.eqvs r q)
    rw [← ih, Bool.and_assoc]
    congr 2
    by_cases h : r.length = q.length
    · rw [h, beq_self_eq_true, beq_self_eq_true]
    · rw [beq_eq_false_iff_ne.mpr h, beq_eq_false_iff_ne.mpr (by omega)]
section
variable {X : Cx} {pins : List (Addr × Obj)} {σ : St} {H : Hp} {s : Shared}
theorem at_lst (I : Inv X pins σ H s) {l : List D} {x : V} {u : Value} (h : Rep H (.lst l) x) (r : RelV x u) : ∃ a vs its, x = .ref a ∧ u = .ref a ∧ s.heap.IsList a (its : List Value).toArray ∧ Vals vs its ∧ Reps H l vs ∧ l.length = its.length := by
  obtain ⟨a, vs, e, g, z, q⟩ := h
  subst e
  obtain ⟨its, rv, pl, _⟩ := I.list (.inl g)
  exact ⟨a, vs, its, rfl, r, pl.isList, rv, q, q.length.trans rv.length⟩
theorem at_tup (I : Inv X pins σ H s) {l : List D} {x : V} {u : Value} (h : Rep H (.tup l) x) (r : RelV x u) : ∃ a vs its, x = .ref a ∧ u = .ref a ∧ s.heap.IsTuple a (its : List Value).toArray ∧ Vals vs its ∧ Reps H l vs ∧ l.length = its.length := by
  obtain ⟨a, vs, e, g, z, q⟩ := h
  subst e
  obtain ⟨its, rv, pl, _⟩ := I.tuple (.inl (.inl g))
  exact ⟨a, vs, its, rfl, r, pl, rv, q, q.length.trans rv.length⟩
theorem in1_units (A : Around) : A.in1.units = A.units + 1 := rfl
mutual
theorem eqAt_d (I : Inv X pins σ H s) : ∀ (a b : D), ∀ (A : Around) (x y : V) (u w : Value), a.plain = true → b.plain = true → Rep H a x → Rep H b y → RelV x u → RelV y w → A.units + min a.dep b.dep < cLine → EqAt A s u w (D.eqv a b)

  | .non, .non => by
    intro A x y u w p1 p2 h k r1 r2 hu
    cases (show x = .non from h)
    cases r1
    cases (show y = .non from k)
    cases r2
    exact EqAt.same _
  | .non, .bl q => by
    intro A x y u w p1 p2 h k r1 r2 hu
    cases (show x = .non from h)
    cases r1
    cases (show y = .bl _ from k)
    cases r2
    exact EqAt.none_bool _
  | .non, .int q => by
    intro A x y u w p1 p2 h k r1 r2 hu
    cases (show x = .non from h)
    cases r1
    cases (show y = .int _ from k)
    obtain ⟨t2, rfl⟩ := r2
    exact EqAt.none_int _ t2
  | .non, .str q => by
    intro A x y u w p1 p2 h k r1 r2 hu
    cases (show x = .non from h)
    cases r1
    cases (show y = .str _ from k)
    obtain ⟨t2, rfl⟩ := r2
    exact EqAt.none_str _ t2
  | .non, .tup l => by
    intro A x y u w p1 p2 h k r1 r2 hu
    cases (show x = .non from h)
    cases r1
    obtain ⟨_, _, _, rfl, rfl, hl, _⟩ := at_tup I k r2
    exact EqAt.none_tuple hl (by omega)
  | .non, .lst l => by
    intro A x y u w p1 p2 h k r1 r2 hu
    cases (show x = .non from h)
    cases r1
    obtain ⟨_, _, _, rfl, rfl, hl, _⟩ := at_lst I k r2
    exact EqAt.none_list hl (by omega)
  | .bl p, .non => by
    intro A x y u w p1 p2 h k r1 r2 hu
    cases (show x = .bl _ from h)
    cases r1
    cases (show y = .non from k)
    cases r2
    exact EqAt.bool_none _
  | .bl p, .bl q => by
    intro A x y u w p1 p2 h k r1 r2 hu
    cases (show x = .bl _ from h)
    cases r1
    cases (show y = .bl _ from k)
    cases r2
    exact EqAt.bool_bool _ _
  | .bl p, .int q => by
    intro A x y u w p1 p2 h k r1 r2 hu
    cases (show x = .bl _ from h)
    cases r1
    cases (show y = .int _ from k)
    obtain ⟨t2, rfl⟩ := r2
    exact EqAt.bool_int _ _ t2
  | .bl p, .str q => by
    intro A x y u w p1 p2 h k r1 r2 hu
    cases (show x = .bl _ from h)
    cases r1
    cases (show y = .str _ from k)
    obtain ⟨t2, rfl⟩ := r2
    exact EqAt.bool_str _ _ t2
  | .bl p, .tup l => by
    intro A x y u w p1 p2 h k r1 r2 hu
    cases (show x = .bl _ from h)
    cases r1
    obtain ⟨_, _, _, rfl, rfl, hl, _⟩ := at_tup I k r2
    exact EqAt.bool_tuple _ hl (by omega)
  | .bl p, .lst l => by
    intro A x y u w p1 p2 h k r1 r2 hu
    cases (show x = .bl _ from h)
    cases r1
    obtain ⟨_, _, _, rfl, rfl, hl, _⟩ := at_lst I k r2
    exact EqAt.bool_list _ hl (by omega)
  | .int p, .non => by
    intro A x y u w p1 p2 h k r1 r2 hu
    cases (show x = .int _ from h)
    obtain ⟨t1, rfl⟩ := r1
    cases (show y = .non from k)
    cases r2
    exact EqAt.int_none _ t1
  | .int p, .bl q => by
    intro A x y u w p1 p2 h k r1 r2 hu
    cases (show x = .int _ from h)
    obtain ⟨t1, rfl⟩ := r1
    cases (show y = .bl _ from k)
    cases r2
    exact EqAt.int_bool _ t1 _
  | .int p, .int q => by
    intro A x y u w p1 p2 h k r1 r2 hu
    cases (show x = .int _ from h)
    obtain ⟨t1, rfl⟩ := r1
    cases (show y = .int _ from k)
    obtain ⟨t2, rfl⟩ := r2
    exact EqAt.int_int _ t1 _ t2
  | .int p, .str q => by
    intro A x y u w p1 p2 h k r1 r2 hu
    cases (show x = .int _ from h)
    obtain ⟨t1, rfl⟩ := r1
    cases (show y = .str _ from k)
    obtain ⟨t2, rfl⟩ := r2
    exact EqAt.int_str _ t1 _ t2
  | .int p, .tup l => by
    intro A x y u w p1 p2 h k r1 r2 hu
    cases (show x = .int _ from h)
    obtain ⟨t1, rfl⟩ := r1
    obtain ⟨_, _, _, rfl, rfl, hl, _⟩ := at_tup I k r2
    exact EqAt.int_tuple _ t1 hl (by omega)
  | .int p, .lst l => by
    intro A x y u w p1 p2 h k r1 r2 hu
    cases (show x = .int _ from h)
    obtain ⟨t1, rfl⟩ := r1
    obtain ⟨_, _, _, rfl, rfl, hl, _⟩ := at_lst I k r2
    exact EqAt.int_list _ t1 hl (by omega)
  | .str p, .non => by
    intro A x y u w p1 p2 h k r1 r2 hu
    cases (show x = .str _ from h)
    obtain ⟨t1, rfl⟩ := r1
    cases (show y = .non from k)
    cases r2
    exact EqAt.str_none _ t1
  | .str p, .bl q => by
    intro A x y u w p1 p2 h k r1 r2 hu
    cases (show x = .str _ from h)
    obtain ⟨t1, rfl⟩ := r1
    cases (show y = .bl _ from k)
    cases r2
    exact EqAt.str_bool _ t1 _
  | .str p, .int q => by
    intro A x y u w p1 p2 h k r1 r2 hu
    cases (show x = .str _ from h)
    obtain ⟨t1, rfl⟩ := r1
    cases (show y = .int _ from k)
    obtain ⟨t2, rfl⟩ := r2
    exact EqAt.str_int _ t1 _ t2
  | .str p, .str q => by
    intro A x y u w p1 p2 h k r1 r2 hu
    cases (show x = .str _ from h)
    obtain ⟨t1, rfl⟩ := r1
    cases (show y = .str _ from k)
    obtain ⟨t2, rfl⟩ := r2
    show EqAt A s _ _ (p == q)
    rw [← mkS_beq]
    exact EqAt.str_str _ t1 _ t2
  | .str p, .tup l => by
    intro A x y u w p1 p2 h k r1 r2 hu
    cases (show x = .str _ from h)
    obtain ⟨t1, rfl⟩ := r1
    obtain ⟨_, _, _, rfl, rfl, hl, _⟩ := at_tup I k r2
    exact EqAt.str_tuple _ t1 hl (by omega)
  | .str p, .lst l => by
    intro A x y u w p1 p2 h k r1 r2 hu
    cases (show x = .str _ from h)
    obtain ⟨t1, rfl⟩ := r1
    obtain ⟨_, _, _, rfl, rfl, hl, _⟩ := at_lst I k r2
    exact EqAt.str_list _ t1 hl (by omega)
  | .tup l, .non => by
    intro A x y u w p1 p2 h k r1 r2 hu
    cases (show y = .non from k)
    cases r2
    obtain ⟨_, _, _, rfl, rfl, hl, _⟩ := at_tup I h r1
    exact EqAt.tuple_none hl (by omega)
  | .tup l, .bl q => by
    intro A x y u w p1 p2 h k r1 r2 hu
    cases (show y = .bl _ from k)
    cases r2
    obtain ⟨_, _, _, rfl, rfl, hl, _⟩ := at_tup I h r1
    exact EqAt.tuple_bool _ hl (by omega)
  | .tup l, .int q => by
    intro A x y u w p1 p2 h k r1 r2 hu
    cases (show y = .int _ from k)
    obtain ⟨t2, rfl⟩ := r2
    obtain ⟨_, _, _, rfl, rfl, hl, _⟩ := at_tup I h r1
    exact EqAt.tuple_int _ t2 hl (by omega)
  | .tup l, .str q => by
    intro A x y u w p1 p2 h k r1 r2 hu
    cases (show y = .str _ from k)
    obtain ⟨t2, rfl⟩ := r2
    obtain ⟨_, _, _, rfl, rfl, hl, _⟩ := at_tup I h r1
    exact EqAt.tuple_str _ t2 hl (by omega)
  | .lst l, .non => by
    intro A x y u w p1 p2 h k r1 r2 hu
    cases (show y = .non from k)
    cases r2
    obtain ⟨_, _, _, rfl, rfl, hl, _⟩ := at_lst I h r1
    exact EqAt.list_none hl (by omega)
  | .lst l, .bl q => by
    intro A x y u w p1 p2 h k r1 r2 hu
    cases (show y = .bl _ from k)
    cases r2
    obtain ⟨_, _, _, rfl, rfl, hl, _⟩ := at_lst I h r1
    exact EqAt.list_bool _ hl (by omega)
  | .lst l, .int q => by
    intro A x y u w p1 p2 h k r1 r2 hu
    cases (show y = .int _ from k)
    obtain ⟨t2, rfl⟩ := r2
    obtain ⟨_, _, _, rfl, rfl, hl, _⟩ := at_lst I h r1
    exact EqAt.list_int _ t2 hl (by omega)
  | .lst l, .str q => by
    intro A x y u w p1 p2 h k r1 r2 hu
    cases (show y = .str _ from k)
    obtain ⟨t2, rfl⟩ := r2
    obtain ⟨_, _, _, rfl, rfl, hl, _⟩ := at_lst I h r1
    exact EqAt.list_str _ t2 hl (by omega)
  | .tup l, .lst m => by
    intro A x y u w p1 p2 h k r1 r2 hu
    obtain ⟨_, _, _, rfl, rfl, hl, _⟩ := at_tup I h r1
    obtain ⟨_, _, _, rfl, rfl, hm, _⟩ := at_lst I k r2
    exact EqAt.tuple_list hl hm (by omega)
  | .lst l, .tup m => by
    intro A x y u w p1 p2 h k r1 r2 hu
    obtain ⟨_, _, _, rfl, rfl, hl, _⟩ := at_lst I h r1
    obtain ⟨_, _, _, rfl, rfl, hm, _⟩ := at_tup I k r2
    exact EqAt.list_tuple hl hm (by omega)
  | .tup l, .tup m => by
    intro A x y u w p1 p2 h k r1 r2 hu
    obtain ⟨a, vs, its, ea, eu, hl, v1, q1, n1⟩ := at_tup I h r1
    obtain ⟨b, ws, its2, eb, ew, hm, v2, q2, n2⟩ := at_tup I k r2
    by_cases hab : a = b
    · subst hab
      rw [eb, ← ea] at k
      have := rep_inj (.tup l) (.tup m) x p1 p2 h k
      rw [← this, eqv_refl _ p1, eu, ew]
      exact EqAt.same _
    · rw [eu, ew]
      show EqAt A s _ _ (D.eqvs l m)
      rw [← eqvs_eq]
      simp only [D.dep] at hu
      have hA : A.units < cLine := by omega
      have z := EqAt.of_refs hab (RcAt.tuples (e := eqAtJ l m) hl hm hA fun j j1 j2 => by
        have := eqAt_ds I l m A.in1 vs ws its its2 p1 p2 q1 q2 v1 v2 (by rw [in1_units]; omega) j (by simpa using j1) (by simpa using j2)
        simpa using this)
      rw [List.size_toArray, List.size_toArray, ← n1, ← n2] at z
      exact z
  | .lst l, .lst m => by
    intro A x y u w p1 p2 h k r1 r2 hu
    obtain ⟨a, vs, its, ea, eu, hl, v1, q1, n1⟩ := at_lst I h r1
    obtain ⟨b, ws, its2, eb, ew, hm, v2, q2, n2⟩ := at_lst I k r2
    by_cases hab : a = b
    · subst hab
      rw [eb, ← ea] at k
      have := rep_inj (.lst l) (.lst m) x p1 p2 h k
      rw [← this, eqv_refl _ p1, eu, ew]
      exact EqAt.same _
    · rw [eu, ew]
      show EqAt A s _ _ (D.eqvs l m)
      rw [← eqvs_eq]
      simp only [D.dep] at hu
      have hA : A.units < cLine := by omega
      by_cases hn : its.length = its2.length
      · have z := EqAt.of_refs hab (RcAt.lists (e := eqAtJ l m) hl hm (by simpa using hn) hA fun j j1 j2 => by
          have := eqAt_ds I l m A.in1 vs ws its its2 p1 p2 q1 q2 v1 v2 (by rw [in1_units]; omega) j (by simpa using j1) (by simpa using j2)
          simpa using this)
        rw [List.size_toArray, ← n1] at z
        rw [show l.length = m.length by omega, beq_self_eq_true, Bool.and_true, Nat.min_self, ← show l.length = m.length by omega]
        exact z
      · rw [beq_eq_false_iff_ne.mpr (by omega : l.length ≠ m.length), Bool.and_false]
        exact EqAt.of_refs hab (RcAt.lists_lengths hl hm (by simpa using hn) hA)
  | .dct _ _, _ => by intro A x y u w p1 p2 h k r1 r2 hu; cases p1
  | .opq _, _ => by intro A x y u w p1 p2 h k r1 r2 hu; cases p1
  | .exc _ _, _ => by intro A x y u w p1 p2 h k r1 r2 hu; cases p1
  | .fd _ _ _, _ => by intro A x y u w p1 p2 h k r1 r2 hu; cases p1
  | .fz _, _ => by intro A x y u w p1 p2 h k r1 r2 hu; cases p1
  | _, .dct _ _ => by intro A x y u w p1 p2 h k r1 r2 hu; cases p2
  | _, .opq _ => by intro A x y u w p1 p2 h k r1 r2 hu; cases p2
  | _, .exc _ _ => by intro A x y u w p1 p2 h k r1 r2 hu; cases p2
  | _, .fd _ _ _ => by intro A x y u w p1 p2 h k r1 r2 hu; cases p2
  | _, .fz _ => by intro A x y u w p1 p2 h k r1 r2 hu; cases p2
theorem eqAt_ds (I : Inv X pins σ H s) : ∀ (l m : List D) (A : Around) (xs ys : List V) (us ws : List Value), D.plains l = true → D.plains m = true → Reps H l xs → Reps H m ys → Vals xs us → Vals ys ws → A.units + min (D.deps l) (D.deps m) < cLine →
    ∀ j (h1 : j < us.length) (h2 : j < ws.length), EqAt A s us[j] ws[j] (eqAtJ l m j)
  | [], _, _, _, _, _, _, _, _, h, _, v1, _, _, j, h1, _ => by
    cases (show _ = [] from h); cases v1; exact absurd h1 (Nat.not_lt_zero _)
  | _ :: _, [], _, _, _, _, _, _, _, _, h, _, v2, _, j, _, h2 => by
    cases (show _ = [] from h); cases v2; exact absurd h2 (Nat.not_lt_zero _)
  | a :: l, b :: m, A, _, _, _, _, p1, p2, ⟨x, xs, e1, q1, r1⟩, ⟨y, ys, e2, q2, r2⟩, v1, v2, hu, j, h1, h2 => by
    subst e1; subst e2
    simp only [D.plains, Bool.and_eq_true] at p1 p2
    simp only [D.deps] at hu
    cases v1 with
    | cons z1 v1 =>
      cases v2 with
      | cons z2 v2 =>
        cases j with
        | zero => exact eqAt_d I a b A x y _ _ p1.1 p2.1 q1 q2 z1 z2 (by omega)
        | succ j => exact eqAt_ds I l m A xs ys _ _ p1.2 p2.2 r1 r2 v1 v2 (by omega) j (Nat.lt_of_succ_lt_succ h1) (Nat.lt_of_succ_lt_succ h2)
end

theorem rcEq_d (I : Inv X pins σ H s) : ∀ (a b : D), ∀ (A : Around) (x y : V) (u w : Value), a.plain = true → b.plain = true → Rep H a x → Rep H b y → RelV x u → RelV y w → A.units + min a.dep b.dep < cLine → RcAt A s u w (D.eqv a b)
  | .non, .non => by
    intro A x y u w p1 p2 h k r1 r2 hu
    cases (show x = .non from h)
    cases r1
    cases (show y = .non from k)
    cases r2
    exact RcAt.none_none
  | .non, .bl q => by
    intro A x y u w p1 p2 h k r1 r2 hu
    cases (show x = .non from h)
    cases r1
    cases (show y = .bl _ from k)
    cases r2
    exact RcAt.none_bool _
  | .non, .int q => by
    intro A x y u w p1 p2 h k r1 r2 hu
    cases (show x = .non from h)
    cases r1
    cases (show y = .int _ from k)
    obtain ⟨t2, rfl⟩ := r2
    exact RcAt.none_int _ t2
  | .non, .str q => by
    intro A x y u w p1 p2 h k r1 r2 hu
    cases (show x = .non from h)
    cases r1
    cases (show y = .str _ from k)
    obtain ⟨t2, rfl⟩ := r2
    exact RcAt.none_str _ t2
  | .non, .tup l => by
    intro A x y u w p1 p2 h k r1 r2 hu
    cases (show x = .non from h)
    cases r1
    obtain ⟨_, _, _, rfl, rfl, hl, _⟩ := at_tup I k r2
    exact RcAt.none_tuple hl (by omega)
  | .non, .lst l => by
    intro A x y u w p1 p2 h k r1 r2 hu
    cases (show x = .non from h)
    cases r1
    obtain ⟨_, _, _, rfl, rfl, hl, _⟩ := at_lst I k r2
    exact RcAt.none_list hl (by omega)
  | .bl p, .non => by
    intro A x y u w p1 p2 h k r1 r2 hu
    cases (show x = .bl _ from h)
    cases r1
    cases (show y = .non from k)
    cases r2
    exact RcAt.bool_none _
  | .bl p, .bl q => by
    intro A x y u w p1 p2 h k r1 r2 hu
    cases (show x = .bl _ from h)
    cases r1
    cases (show y = .bl _ from k)
    cases r2
    exact RcAt.bool_bool _ _
  | .bl p, .int q => by
    intro A x y u w p1 p2 h k r1 r2 hu
    cases (show x = .bl _ from h)
    cases r1
    cases (show y = .int _ from k)
    obtain ⟨t2, rfl⟩ := r2
    exact RcAt.bool_int _ _ t2
  | .bl p, .str q => by
    intro A x y u w p1 p2 h k r1 r2 hu
    cases (show x = .bl _ from h)
    cases r1
    cases (show y = .str _ from k)
    obtain ⟨t2, rfl⟩ := r2
    exact RcAt.bool_str _ _ t2
  | .bl p, .tup l => by
    intro A x y u w p1 p2 h k r1 r2 hu
    cases (show x = .bl _ from h)
    cases r1
    obtain ⟨_, _, _, rfl, rfl, hl, _⟩ := at_tup I k r2
    exact RcAt.bool_tuple _ hl (by omega)
  | .bl p, .lst l => by
    intro A x y u w p1 p2 h k r1 r2 hu
    cases (show x = .bl _ from h)
    cases r1
    obtain ⟨_, _, _, rfl, rfl, hl, _⟩ := at_lst I k r2
    exact RcAt.bool_list _ hl (by omega)
  | .int p, .non => by
    intro A x y u w p1 p2 h k r1 r2 hu
    cases (show x = .int _ from h)
    obtain ⟨t1, rfl⟩ := r1
    cases (show y = .non from k)
    cases r2
    exact RcAt.int_none _ t1
  | .int p, .bl q => by
    intro A x y u w p1 p2 h k r1 r2 hu
    cases (show x = .int _ from h)
    obtain ⟨t1, rfl⟩ := r1
    cases (show y = .bl _ from k)
    cases r2
    exact RcAt.int_bool _ t1 _
  | .int p, .int q => by
    intro A x y u w p1 p2 h k r1 r2 hu
    cases (show x = .int _ from h)
    obtain ⟨t1, rfl⟩ := r1
    cases (show y = .int _ from k)
    obtain ⟨t2, rfl⟩ := r2
    exact RcAt.int_int _ t1 _ t2
  | .int p, .str q => by
    intro A x y u w p1 p2 h k r1 r2 hu
    cases (show x = .int _ from h)
    obtain ⟨t1, rfl⟩ := r1
    cases (show y = .str _ from k)
    obtain ⟨t2, rfl⟩ := r2
    exact RcAt.int_str _ t1 _ t2
  | .int p, .tup l => by
    intro A x y u w p1 p2 h k r1 r2 hu
    cases (show x = .int _ from h)
    obtain ⟨t1, rfl⟩ := r1
    obtain ⟨_, _, _, rfl, rfl, hl, _⟩ := at_tup I k r2
    exact RcAt.int_tuple _ t1 hl (by omega)
  | .int p, .lst l => by
    intro A x y u w p1 p2 h k r1 r2 hu
    cases (show x = .int _ from h)
    obtain ⟨t1, rfl⟩ := r1
    obtain ⟨_, _, _, rfl, rfl, hl, _⟩ := at_lst I k r2
    exact RcAt.int_list _ t1 hl (by omega)
  | .str p, .non => by
    intro A x y u w p1 p2 h k r1 r2 hu
    cases (show x = .str _ from h)
    obtain ⟨t1, rfl⟩ := r1
    cases (show y = .non from k)
    cases r2
    exact RcAt.str_none _ t1
  | .str p, .bl q => by
    intro A x y u w p1 p2 h k r1 r2 hu
    cases (show x = .str _ from h)
    obtain ⟨t1, rfl⟩ := r1
    cases (show y = .bl _ from k)
    cases r2
    exact RcAt.str_bool _ t1 _
  | .str p, .int q => by
    intro A x y u w p1 p2 h k r1 r2 hu
    cases (show x = .str _ from h)
    obtain ⟨t1, rfl⟩ := r1
    cases (show y = .int _ from k)
    obtain ⟨t2, rfl⟩ := r2
    exact RcAt.str_int _ t1 _ t2
  | .str p, .str q => by
    intro A x y u w p1 p2 h k r1 r2 hu
    cases (show x = .str _ from h)
    obtain ⟨t1, rfl⟩ := r1
    cases (show y = .str _ from k)
    obtain ⟨t2, rfl⟩ := r2
    show RcAt A s _ _ (p == q)
    rw [← mkS_beq]
    exact RcAt.str_str _ t1 _ t2
  | .str p, .tup l => by
    intro A x y u w p1 p2 h k r1 r2 hu
    cases (show x = .str _ from h)
    obtain ⟨t1, rfl⟩ := r1
    obtain ⟨_, _, _, rfl, rfl, hl, _⟩ := at_tup I k r2
    exact RcAt.str_tuple _ t1 hl (by omega)
  | .str p, .lst l => by
    intro A x y u w p1 p2 h k r1 r2 hu
    cases (show x = .str _ from h)
    obtain ⟨t1, rfl⟩ := r1
    obtain ⟨_, _, _, rfl, rfl, hl, _⟩ := at_lst I k r2
    exact RcAt.str_list _ t1 hl (by omega)
  | .tup l, .non => by
    intro A x y u w p1 p2 h k r1 r2 hu
    cases (show y = .non from k)
    cases r2
    obtain ⟨_, _, _, rfl, rfl, hl, _⟩ := at_tup I h r1
    exact RcAt.tuple_none hl (by omega)
  | .tup l, .bl q => by
    intro A x y u w p1 p2 h k r1 r2 hu
    cases (show y = .bl _ from k)
    cases r2
    obtain ⟨_, _, _, rfl, rfl, hl, _⟩ := at_tup I h r1
    exact RcAt.tuple_bool _ hl (by omega)
  | .tup l, .int q => by
    intro A x y u w p1 p2 h k r1 r2 hu
    cases (show y = .int _ from k)
    obtain ⟨t2, rfl⟩ := r2
    obtain ⟨_, _, _, rfl, rfl, hl, _⟩ := at_tup I h r1
    exact RcAt.tuple_int _ t2 hl (by omega)
  | .tup l, .str q => by
    intro A x y u w p1 p2 h k r1 r2 hu
    cases (show y = .str _ from k)
    obtain ⟨t2, rfl⟩ := r2
    obtain ⟨_, _, _, rfl, rfl, hl, _⟩ := at_tup I h r1
    exact RcAt.tuple_str _ t2 hl (by omega)
  | .lst l, .non => by
    intro A x y u w p1 p2 h k r1 r2 hu
    cases (show y = .non from k)
    cases r2
    obtain ⟨_, _, _, rfl, rfl, hl, _⟩ := at_lst I h r1
    exact RcAt.list_none hl (by omega)
  | .lst l, .bl q => by
    intro A x y u w p1 p2 h k r1 r2 hu
    cases (show y = .bl _ from k)
    cases r2
    obtain ⟨_, _, _, rfl, rfl, hl, _⟩ := at_lst I h r1
    exact RcAt.list_bool _ hl (by omega)
  | .lst l, .int q => by
    intro A x y u w p1 p2 h k r1 r2 hu
    cases (show y = .int _ from k)
    obtain ⟨t2, rfl⟩ := r2
    obtain ⟨_, _, _, rfl, rfl, hl, _⟩ := at_lst I h r1
    exact RcAt.list_int _ t2 hl (by omega)
  | .lst l, .str q => by
    intro A x y u w p1 p2 h k r1 r2 hu
    cases (show y = .str _ from k)
    obtain ⟨t2, rfl⟩ := r2
    obtain ⟨_, _, _, rfl, rfl, hl, _⟩ := at_lst I h r1
    exact RcAt.list_str _ t2 hl (by omega)
  | .tup l, .lst m => by
    intro A x y u w p1 p2 h k r1 r2 hu
    obtain ⟨_, _, _, rfl, rfl, hl, _⟩ := at_tup I h r1
    obtain ⟨_, _, _, rfl, rfl, hm, _⟩ := at_lst I k r2
    exact RcAt.tuple_list hl hm (by omega)
  | .lst l, .tup m => by
    intro A x y u w p1 p2 h k r1 r2 hu
    obtain ⟨_, _, _, rfl, rfl, hl, _⟩ := at_lst I h r1
    obtain ⟨_, _, _, rfl, rfl, hm, _⟩ := at_tup I k r2
    exact RcAt.list_tuple hl hm (by omega)
  | .tup l, .tup m => by
    intro A x y u w p1 p2 h k r1 r2 hu
    obtain ⟨a, vs, its, ea, eu, hl, v1, q1, n1⟩ := at_tup I h r1
    obtain ⟨b, ws, its2, eb, ew, hm, v2, q2, n2⟩ := at_tup I k r2
    rw [eu, ew]
    show RcAt A s _ _ (D.eqvs l m)
    rw [← eqvs_eq]
    simp only [D.dep] at hu
    have hA : A.units < cLine := by omega
    have z := RcAt.tuples (e := eqAtJ l m) hl hm hA fun j j1 j2 => by
      have := eqAt_ds I l m A.in1 vs ws its its2 p1 p2 q1 q2 v1 v2 (by rw [in1_units]; omega) j (by simpa using j1) (by simpa using j2)
      simpa using this
    rw [List.size_toArray, List.size_toArray, ← n1, ← n2] at z
    exact z
  | .lst l, .lst m => by
    intro A x y u w p1 p2 h k r1 r2 hu
    obtain ⟨a, vs, its, ea, eu, hl, v1, q1, n1⟩ := at_lst I h r1
    obtain ⟨b, ws, its2, eb, ew, hm, v2, q2, n2⟩ := at_lst I k r2
    rw [eu, ew]
    show RcAt A s _ _ (D.eqvs l m)
    rw [← eqvs_eq]
    simp only [D.dep] at hu
    have hA : A.units < cLine := by omega
    by_cases hn : its.length = its2.length
    · have z := RcAt.lists (e := eqAtJ l m) hl hm (by simpa using hn) hA fun j j1 j2 => by
        have := eqAt_ds I l m A.in1 vs ws its its2 p1 p2 q1 q2 v1 v2 (by rw [in1_units]; omega) j (by simpa using j1) (by simpa using j2)
        simpa using this
      rw [List.size_toArray, ← n1] at z
      rw [show l.length = m.length by omega, beq_self_eq_true, Bool.and_true, Nat.min_self, ← show l.length = m.length by omega]
      exact z
    · rw [beq_eq_false_iff_ne.mpr (by omega : l.length ≠ m.length), Bool.and_false]
      exact RcAt.lists_lengths hl hm (by simpa using hn) hA
  | .dct _ _, _ => by intro A x y u w p1 p2 h k r1 r2 hu; cases p1
  | .opq _, _ => by intro A x y u w p1 p2 h k r1 r2 hu; cases p1
  | .exc _ _, _ => by intro A x y u w p1 p2 h k r1 r2 hu; cases p1
  | .fd _ _ _, _ => by intro A x y u w p1 p2 h k r1 r2 hu; cases p1
  | .fz _, _ => by intro A x y u w p1 p2 h k r1 r2 hu; cases p1
  | _, .dct _ _ => by intro A x y u w p1 p2 h k r1 r2 hu; cases p2
  | _, .opq _ => by intro A x y u w p1 p2 h k r1 r2 hu; cases p2
  | _, .exc _ _ => by intro A x y u w p1 p2 h k r1 r2 hu; cases p2
  | _, .fd _ _ _ => by intro A x y u w p1 p2 h k r1 r2 hu; cases p2
  | _, .fz _ => by intro A x y u w p1 p2 h k r1 r2 hu; cases p2
theorem rcNe_d (I : Inv X pins σ H s) : ∀ (a b : D), ∀ (A : Around) (x y : V) (u w : Value), a.plain = true → b.plain = true → Rep H a x → Rep H b y → RelV x u → RelV y w → A.units + min a.dep b.dep < cLine → RcNeAt A s u w (!(D.eqv a b))
  | .non, .non => by
    intro A x y u w p1 p2 h k r1 r2 hu
    cases (show x = .non from h)
    cases r1
    cases (show y = .non from k)
    cases r2
    exact RcNeAt.none_none
  | .non, .bl q => by
    intro A x y u w p1 p2 h k r1 r2 hu
    cases (show x = .non from h)
    cases r1
    cases (show y = .bl _ from k)
    cases r2
    exact RcNeAt.none_bool _
  | .non, .int q => by
    intro A x y u w p1 p2 h k r1 r2 hu
    cases (show x = .non from h)
    cases r1
    cases (show y = .int _ from k)
    obtain ⟨t2, rfl⟩ := r2
    exact RcNeAt.none_int _ t2
  | .non, .str q => by
    intro A x y u w p1 p2 h k r1 r2 hu
    cases (show x = .non from h)
    cases r1
    cases (show y = .str _ from k)
    obtain ⟨t2, rfl⟩ := r2
    exact RcNeAt.none_str _ t2
  | .non, .tup l => by
    intro A x y u w p1 p2 h k r1 r2 hu
    cases (show x = .non from h)
    cases r1
    obtain ⟨_, _, _, rfl, rfl, hl, _⟩ := at_tup I k r2
    exact RcNeAt.none_tuple hl (by omega)
  | .non, .lst l => by
    intro A x y u w p1 p2 h k r1 r2 hu
    cases (show x = .non from h)
    cases r1
    obtain ⟨_, _, _, rfl, rfl, hl, _⟩ := at_lst I k r2
    exact RcNeAt.none_list hl (by omega)
  | .bl p, .non => by
    intro A x y u w p1 p2 h k r1 r2 hu
    cases (show x = .bl _ from h)
    cases r1
    cases (show y = .non from k)
    cases r2
    exact RcNeAt.bool_none _
  | .bl p, .bl q => by
    intro A x y u w p1 p2 h k r1 r2 hu
    cases (show x = .bl _ from h)
    cases r1
    cases (show y = .bl _ from k)
    cases r2
    exact RcNeAt.bool_bool _ _
  | .bl p, .int q => by
    intro A x y u w p1 p2 h k r1 r2 hu
    cases (show x = .bl _ from h)
    cases r1
    cases (show y = .int _ from k)
    obtain ⟨t2, rfl⟩ := r2
    exact RcNeAt.bool_int _ _ t2
  | .bl p, .str q => by
    intro A x y u w p1 p2 h k r1 r2 hu
    cases (show x = .bl _ from h)
    cases r1
    cases (show y = .str _ from k)
    obtain ⟨t2, rfl⟩ := r2
    exact RcNeAt.bool_str _ _ t2
  | .bl p, .tup l => by
    intro A x y u w p1 p2 h k r1 r2 hu
    cases (show x = .bl _ from h)
    cases r1
    obtain ⟨_, _, _, rfl, rfl, hl, _⟩ := at_tup I k r2
    exact RcNeAt.bool_tuple _ hl (by omega)
  | .bl p, .lst l => by
    intro A x y u w p1 p2 h k r1 r2 hu
    cases (show x = .bl _ from h)
    cases r1
    obtain ⟨_, _, _, rfl, rfl, hl, _⟩ := at_lst I k r2
    exact RcNeAt.bool_list _ hl (by omega)
  | .int p, .non => by
    intro A x y u w p1 p2 h k r1 r2 hu
    cases (show x = .int _ from h)
    obtain ⟨t1, rfl⟩ := r1
    cases (show y = .non from k)
    cases r2
    exact RcNeAt.int_none _ t1
  | .int p, .bl q => by
    intro A x y u w p1 p2 h k r1 r2 hu
    cases (show x = .int _ from h)
    obtain ⟨t1, rfl⟩ := r1
    cases (show y = .bl _ from k)
    cases r2
    exact RcNeAt.int_bool _ t1 _
  | .int p, .int q => by
    intro A x y u w p1 p2 h k r1 r2 hu
    cases (show x = .int _ from h)
    obtain ⟨t1, rfl⟩ := r1
    cases (show y = .int _ from k)
    obtain ⟨t2, rfl⟩ := r2
    exact RcNeAt.int_int _ t1 _ t2
  | .int p, .str q => by
    intro A x y u w p1 p2 h k r1 r2 hu
    cases (show x = .int _ from h)
    obtain ⟨t1, rfl⟩ := r1
    cases (show y = .str _ from k)
    obtain ⟨t2, rfl⟩ := r2
    exact RcNeAt.int_str _ t1 _ t2
  | .int p, .tup l => by
    intro A x y u w p1 p2 h k r1 r2 hu
    cases (show x = .int _ from h)
    obtain ⟨t1, rfl⟩ := r1
    obtain ⟨_, _, _, rfl, rfl, hl, _⟩ := at_tup I k r2
    exact RcNeAt.int_tuple _ t1 hl (by omega)
  | .int p, .lst l => by
    intro A x y u w p1 p2 h k r1 r2 hu
    cases (show x = .int _ from h)
    obtain ⟨t1, rfl⟩ := r1
    obtain ⟨_, _, _, rfl, rfl, hl, _⟩ := at_lst I k r2
    exact RcNeAt.int_list _ t1 hl (by omega)
  | .str p, .non => by
    intro A x y u w p1 p2 h k r1 r2 hu
    cases (show x = .str _ from h)
    obtain ⟨t1, rfl⟩ := r1
    cases (show y = .non from k)
    cases r2
    exact RcNeAt.str_none _ t1
  | .str p, .bl q => by
    intro A x y u w p1 p2 h k r1 r2 hu
    cases (show x = .str _ from h)
    obtain ⟨t1, rfl⟩ := r1
    cases (show y = .bl _ from k)
    cases r2
    exact RcNeAt.str_bool _ t1 _
  | .str p, .int q => by
    intro A x y u w p1 p2 h k r1 r2 hu
    cases (show x = .str _ from h)
    obtain ⟨t1, rfl⟩ := r1
    cases (show y = .int _ from k)
    obtain ⟨t2, rfl⟩ := r2
    exact RcNeAt.str_int _ t1 _ t2
  | .str p, .str q => by
    intro A x y u w p1 p2 h k r1 r2 hu
    cases (show x = .str _ from h)
    obtain ⟨t1, rfl⟩ := r1
    cases (show y = .str _ from k)
    obtain ⟨t2, rfl⟩ := r2
    show RcNeAt A s _ _ (!(p == q))
    rw [← mkS_beq]
    exact RcNeAt.str_str _ t1 _ t2
  | .str p, .tup l => by
    intro A x y u w p1 p2 h k r1 r2 hu
    cases (show x = .str _ from h)
    obtain ⟨t1, rfl⟩ := r1
    obtain ⟨_, _, _, rfl, rfl, hl, _⟩ := at_tup I k r2
    exact RcNeAt.str_tuple _ t1 hl (by omega)
  | .str p, .lst l => by
    intro A x y u w p1 p2 h k r1 r2 hu
    cases (show x = .str _ from h)
    obtain ⟨t1, rfl⟩ := r1
    obtain ⟨_, _, _, rfl, rfl, hl, _⟩ := at_lst I k r2
    exact RcNeAt.str_list _ t1 hl (by omega)
  | .tup l, .non => by
    intro A x y u w p1 p2 h k r1 r2 hu
    cases (show y = .non from k)
    cases r2
    obtain ⟨_, _, _, rfl, rfl, hl, _⟩ := at_tup I h r1
    exact RcNeAt.tuple_none hl (by omega)
  | .tup l, .bl q => by
    intro A x y u w p1 p2 h k r1 r2 hu
    cases (show y = .bl _ from k)
    cases r2
    obtain ⟨_, _, _, rfl, rfl, hl, _⟩ := at_tup I h r1
    exact RcNeAt.tuple_bool _ hl (by omega)
  | .tup l, .int q => by
    intro A x y u w p1 p2 h k r1 r2 hu
    cases (show y = .int _ from k)
    obtain ⟨t2, rfl⟩ := r2
    obtain ⟨_, _, _, rfl, rfl, hl, _⟩ := at_tup I h r1
    exact RcNeAt.tuple_int _ t2 hl (by omega)
  | .tup l, .str q => by
    intro A x y u w p1 p2 h k r1 r2 hu
    cases (show y = .str _ from k)
    obtain ⟨t2, rfl⟩ := r2
    obtain ⟨_, _, _, rfl, rfl, hl, _⟩ := at_tup I h r1
    exact RcNeAt.tuple_str _ t2 hl (by omega)
  | .lst l, .non => by
    intro A x y u w p1 p2 h k r1 r2 hu
    cases (show y = .non from k)
    cases r2
    obtain ⟨_, _, _, rfl, rfl, hl, _⟩ := at_lst I h r1
    exact RcNeAt.list_none hl (by omega)
  | .lst l, .bl q => by
    intro A x y u w p1 p2 h k r1 r2 hu
    cases (show y = .bl _ from k)
    cases r2
    obtain ⟨_, _, _, rfl, rfl, hl, _⟩ := at_lst I h r1
    exact RcNeAt.list_bool _ hl (by omega)
  | .lst l, .int q => by
    intro A x y u w p1 p2 h k r1 r2 hu
    cases (show y = .int _ from k)
    obtain ⟨t2, rfl⟩ := r2
    obtain ⟨_, _, _, rfl, rfl, hl, _⟩ := at_lst I h r1
    exact RcNeAt.list_int _ t2 hl (by omega)
  | .lst l, .str q => by
    intro A x y u w p1 p2 h k r1 r2 hu
    cases (show y = .str _ from k)
    obtain ⟨t2, rfl⟩ := r2
    obtain ⟨_, _, _, rfl, rfl, hl, _⟩ := at_lst I h r1
    exact RcNeAt.list_str _ t2 hl (by omega)
  | .tup l, .lst m => by
    intro A x y u w p1 p2 h k r1 r2 hu
    obtain ⟨_, _, _, rfl, rfl, hl, _⟩ := at_tup I h r1
    obtain ⟨_, _, _, rfl, rfl, hm, _⟩ := at_lst I k r2
    exact RcNeAt.tuple_list hl hm (by omega)
  | .lst l, .tup m => by
    intro A x y u w p1 p2 h k r1 r2 hu
    obtain ⟨_, _, _, rfl, rfl, hl, _⟩ := at_lst I h r1
    obtain ⟨_, _, _, rfl, rfl, hm, _⟩ := at_tup I k r2
    exact RcNeAt.list_tuple hl hm (by omega)
  | .tup l, .tup m => by
    intro A x y u w p1 p2 h k r1 r2 hu
    obtain ⟨a, vs, its, ea, eu, hl, v1, q1, n1⟩ := at_tup I h r1
    obtain ⟨b, ws, its2, eb, ew, hm, v2, q2, n2⟩ := at_tup I k r2
    rw [eu, ew]
    show RcNeAt A s _ _ (!(D.eqvs l m))
    rw [← eqvs_eq]
    simp only [D.dep] at hu
    have hA : A.units < cLine := by omega
    have z := RcNeAt.tuples (e := eqAtJ l m) hl hm hA fun j j1 j2 => by
      have := eqAt_ds I l m A.in1 vs ws its its2 p1 p2 q1 q2 v1 v2 (by rw [in1_units]; omega) j (by simpa using j1) (by simpa using j2)
      simpa using this
    rw [List.size_toArray, List.size_toArray, ← n1, ← n2] at z
    exact z
  | .lst l, .lst m => by
    intro A x y u w p1 p2 h k r1 r2 hu
    obtain ⟨a, vs, its, ea, eu, hl, v1, q1, n1⟩ := at_lst I h r1
    obtain ⟨b, ws, its2, eb, ew, hm, v2, q2, n2⟩ := at_lst I k r2
    rw [eu, ew]
    show RcNeAt A s _ _ (!(D.eqvs l m))
    rw [← eqvs_eq]
    simp only [D.dep] at hu
    have hA : A.units < cLine := by omega
    by_cases hn : its.length = its2.length
    · have z := RcNeAt.lists (e := eqAtJ l m) hl hm (by simpa using hn) hA fun j j1 j2 => by
        have := eqAt_ds I l m A.in1 vs ws its its2 p1 p2 q1 q2 v1 v2 (by rw [in1_units]; omega) j (by simpa using j1) (by simpa using j2)
        simpa using this
      rw [List.size_toArray, ← n1] at z
      rw [show l.length = m.length by omega, beq_self_eq_true, Bool.and_true, Nat.min_self, ← show l.length = m.length by omega]
      exact z
    · rw [beq_eq_false_iff_ne.mpr (by omega : l.length ≠ m.length), Bool.and_false]
      exact RcNeAt.lists_lengths hl hm (by simpa using hn) hA
  | .dct _ _, _ => by intro A x y u w p1 p2 h k r1 r2 hu; cases p1
  | .opq _, _ => by intro A x y u w p1 p2 h k r1 r2 hu; cases p1
  | .exc _ _, _ => by intro A x y u w p1 p2 h k r1 r2 hu; cases p1
  | .fd _ _ _, _ => by intro A x y u w p1 p2 h k r1 r2 hu; cases p1
  | .fz _, _ => by intro A x y u w p1 p2 h k r1 r2 hu; cases p1
  | _, .dct _ _ => by intro A x y u w p1 p2 h k r1 r2 hu; cases p2
  | _, .opq _ => by intro A x y u w p1 p2 h k r1 r2 hu; cases p2
  | _, .exc _ _ => by intro A x y u w p1 p2 h k r1 r2 hu; cases p2
  | _, .fd _ _ _ => by intro A x y u w p1 p2 h k r1 r2 hu; cases p2
  | _, .fz _ => by intro A x y u w p1 p2 h k r1 r2 hu; cases p2
end
def eqD (a b : D) : Option Bool := if a.plain = true ∧ b.plain = true ∧ min a.dep b.dep ≤ 60 then some (D.eqv a b) else none
def neD (a b : D) : Option Bool := (eqD a b).map not
def rEqM : R2 := fun x y H Q => ∃ a b, Rep H a x ∧ Rep H b y ∧ a.plain = true ∧ b.plain = true ∧ min a.dep b.dep ≤ 60 ∧ Q (.bl (D.eqv a b)) H
def rNeM : R2 := fun x y H Q => ∃ a b, Rep H a x ∧ Rep H b y ∧ a.plain = true ∧ b.plain = true ∧ min a.dep b.dep ≤ 60 ∧ Q (.bl (!D.eqv a b)) H
theorem op_eqM {X : Cx} (hu : X.A.units + 64 < cLine) : OpR X (compareOp .Eq) rEqM := by
  intro pins s σ H x y v u Q I rx ry h
  obtain ⟨a, b, ha, hb, p1, p2, dp, q⟩ := h
  exact rcEq_d I a b X.A x y v u p1 p2 ha hb rx ry (by omega) X.prog X.w X.xe _ ⟨.bl _, H, I, rfl, q⟩
theorem op_neM {X : Cx} (hu : X.A.units + 64 < cLine) : OpR X (compareOp .NotEq) rNeM := by
  intro pins s σ H x y v u Q I rx ry h
  obtain ⟨a, b, ha, hb, p1, p2, dp, q⟩ := h
  exact rcNe_d I a b X.A x y v u p1 p2 ha hb rx ry (by omega) X.prog X.w X.xe _ ⟨.bl _, H, I, rfl, q⟩
theorem o_eq : Op2B rEqM eqD := fun H x y a b c Q ra rb e q => by
  unfold eqD at e
  split at e
  · cases e
    rename_i h
    exact ⟨a, b, ra, rb, h.1, h.2.1, h.2.2, q⟩
  · cases e
theorem o_ne : Op2B rNeM neD := fun H x y a b c Q ra rb e q => by
  unfold neD eqD at e
  split at e
  · cases e
    rename_i h
    exact ⟨a, b, ra, rb, h.1, h.2.1, h.2.2, q⟩
  · cases e
end VL

namespace VL
open PySem L2
variable [EC]

theorem mkS_app (a b : List Nat) : mkS a ++ mkS b = mkS (a ++ b) := by
  show PySem.Str.append (mkS a) (mkS b) = _
  simp [mkS, PySem.Str.append]
/-! whole numbers, texts -/
def addD : D → D → Option D
  | .int a, .int b => some (.int (a + b))
  | .str a, .str b => if a.length + b.length ≤ 16777216 then some (.str (a ++ b)) else none
  | _, _ => none
def subD : D → D → Option D | .int a, .int b => some (.int (a - b)) | _, _ => none
def mulD : D → D → Option D
  | .int a, .int b => if (-18446744073709551616 < a ∧ a < 18446744073709551616) ∨ (-18446744073709551616 < b ∧ b < 18446744073709551616) then some (.int (a * b)) else none
  | _, _ => none
def modD : D → D → Option D | .int a, .int b => if 0 < b then some (.int (a % b)) else none | _, _ => none
def fdivD : D → D → Option D | .int a, .int b => if 0 < b ∧ b < 1073741824 then some (.int (a / b)) else none | _, _ => none
def powD : D → D → Option D | .int a, .int b => if 0 ≤ b ∧ b ≤ 1000000 ∧ a.natAbs < 18446744073709551616 then some (.int (a ^ b.toNat)) else none | _, _ => none
def negD : D → Option D | .int a => some (.int (-a)) | _ => none
def rAddA : R2 := fun x y H Q => rI0 (fun i j => .int (i + j)) x y H Q ∨ (∃ i j, x = .str i ∧ y = .str j ∧ i.length + j.length ≤ sizeLine ∧ Q (.str (i ++ j)) H)
theorem op_addA {X : Cx} : OpR X (binaryOp .Add) rAddA := op_add.or op_add_str
theorem o_add : Op2C rAddA addD := fun G H x y a b c Q sm ra rb e q => by
  cases a <;> cases b <;> try (cases e; done)
  · cases e
    exact .inl ⟨_, _, ra, rb, q _ rfl⟩
  · simp only [addD] at e
    split at e
    · cases e
      rename_i i j h
      refine .inr ⟨_, _, ra, rb, by rw [mkS_len, mkS_len, sizeLine_eq]; exact h, ?_⟩
      rw [mkS_app]
      exact q _ rfl
    · cases e
theorem o_sub : Op2C (rI0 fun i j => .int (i - j)) subD := fun G H x y a b c Q sm ra rb e q => by
  cases a <;> cases b <;> try (cases e; done)
  cases e
  exact ⟨_, _, ra, rb, q _ rfl⟩
theorem o_mul : Op2C (rI CMul fun i j => .int (i * j)) mulD := fun G H x y a b c Q sm ra rb e q => by
  cases a <;> cases b <;> try (cases e; done)
  simp only [mulD] at e
  split at e
  · cases e
    rename_i i j h
    exact ⟨_, _, ra, rb, h, q _ rfl⟩
  · cases e
theorem o_mod : Op2C (rI (fun _ j => 0 < j) fun i j => .int (i % j)) modD := fun G H x y a b c Q sm ra rb e q => by
  cases a <;> cases b <;> try (cases e; done)
  simp only [modD] at e
  split at e
  · cases e
    rename_i i j h
    exact ⟨_, _, ra, rb, h, q _ rfl⟩
  · cases e
theorem o_fdiv : Op2C (rI CDiv fun i j => .int (i / j)) fdivD := fun G H x y a b c Q sm ra rb e q => by
  cases a <;> cases b <;> try (cases e; done)
  simp only [fdivD] at e
  split at e
  · cases e
    rename_i i j h
    exact ⟨_, _, ra, rb, h, q _ rfl⟩
  · cases e
theorem o_pow : Op2C (rI CPow fun i j => .int (i ^ j.toNat)) powD := fun G H x y a b c Q sm ra rb e q => by
  cases a <;> cases b <;> try (cases e; done)
  simp only [powD] at e
  split at e
  · cases e
    rename_i i j h
    exact ⟨_, _, ra, rb, h, q _ rfl⟩
  · cases e
theorem o_neg : Op1C (rU fun i => .int (-i)) negD := fun G H x a c Q sm ra e q => by
  cases a <;> try (cases e; done)
  cases e
  exact ⟨_, ra, q _ rfl⟩
/-! comparisons -/
def ltD : D → D → Option Bool | .int a, .int b => some (decide (a < b)) | .str a, .str b => some (decide (a < b)) | _, _ => none
def leD : D → D → Option Bool | .int a, .int b => some (decide (a ≤ b)) | _, _ => none
def gtD : D → D → Option Bool | .int a, .int b => some (decide (b < a)) | _, _ => none
def geD : D → D → Option Bool | .int a, .int b => some (decide (b ≤ a)) | _, _ => none
def rLtA : R2 := fun x y H Q => rI0 (fun i j => .bl (decide (i < j))) x y H Q ∨ (∃ i j, x = .str i ∧ y = .str j ∧ Q (.bl (decide (i.cps.toList < j.cps.toList))) H)
theorem op_ltA {X : Cx} : OpR X (compareOp .Lt) rLtA := op_lt.or op_lt_str
theorem o_lt : Op2B rLtA ltD := fun H x y a b c Q ra rb e q => by
  cases a <;> cases b <;> try (cases e; done)
  · cases e; exact .inl ⟨_, _, ra, rb, q⟩
  · cases e
    refine .inr ⟨_, _, ra, rb, ?_⟩
    rw [mkS_cps, mkS_cps]
    exact q
theorem o_le : Op2B (rI0 fun i j => .bl (decide (i ≤ j))) leD := fun H x y a b c Q ra rb e q => by
  cases a <;> cases b <;> try (cases e; done)
  cases e; exact ⟨_, _, ra, rb, q⟩
theorem o_gt : Op2B (rI0 fun i j => .bl (decide (j < i))) gtD := fun H x y a b c Q ra rb e q => by
  cases a <;> cases b <;> try (cases e; done)
  cases e; exact ⟨_, _, ra, rb, q⟩
theorem o_ge : Op2B (rI0 fun i j => .bl (decide (j ≤ i))) geD := fun H x y a b c Q ra rb e q => by
  cases a <;> cases b <;> try (cases e; done)
  cases e; exact ⟨_, _, ra, rb, q⟩
/-! in -/
def D.flat : D → Bool
  | .non => true | .bl _ => true | .int _ => true | .str _ => true | _ => false
theorem flat_ok {H : Hp} : ∀ {a : D} {x : V}, a.flat = true → Rep H a x → flatV x = true
  | .non, x, _, r => by rw [show x = .non from r]; rfl
  | .bl b, x, _, r => by rw [show x = .bl b from r]; rfl
  | .int b, x, _, r => by rw [show x = .int b from r]; rfl
  | .str b, x, _, r => by rw [show x = .str (mkS b) from r]; rfl
  | .tup _, x, f, _ => by cases f
  | .lst _, x, f, _ => by cases f
  | .dct _ _, x, f, _ => by cases f
  | .opq _, x, f, _ => by cases f
  | .exc _ _, x, f, _ => by cases f
  | .fd _ _ _, x, f, _ => by cases f
  | .fz _, x, f, _ => by cases f
theorem eqV_ok' {H : Hp} : ∀ (a b : D), ∀ (x y : V), a.flat = true → b.flat = true → Rep H a x → Rep H b y → eqV x y = D.eqv a b
  | .non, .non => by intro x y _ _ r q; rw [show x = .non from r, show y = .non from q]; rfl
  | .non, .bl b => by intro x y _ _ r q; rw [show x = .non from r, show y = .bl b from q]; rfl
  | .non, .int b => by intro x y _ _ r q; rw [show x = .non from r, show y = .int b from q]; rfl
  | .non, .str b => by intro x y _ _ r q; rw [show x = .non from r, show y = .str (mkS b) from q]; rfl
  | .bl a, .non => by intro x y _ _ r q; rw [show x = .bl a from r, show y = .non from q]; rfl
  | .bl a, .bl b => by intro x y _ _ r q; rw [show x = .bl a from r, show y = .bl b from q]; rfl
  | .bl a, .int b => by intro x y _ _ r q; rw [show x = .bl a from r, show y = .int b from q]; rfl
  | .bl a, .str b => by intro x y _ _ r q; rw [show x = .bl a from r, show y = .str (mkS b) from q]; rfl
  | .int a, .non => by intro x y _ _ r q; rw [show x = .int a from r, show y = .non from q]; rfl
  | .int a, .bl b => by intro x y _ _ r q; rw [show x = .int a from r, show y = .bl b from q]; rfl
  | .int a, .int b => by intro x y _ _ r q; rw [show x = .int a from r, show y = .int b from q]; rfl
  | .int a, .str b => by intro x y _ _ r q; rw [show x = .int a from r, show y = .str (mkS b) from q]; rfl
  | .str a, .non => by intro x y _ _ r q; rw [show x = .str (mkS a) from r, show y = .non from q]; rfl
  | .str a, .bl b => by intro x y _ _ r q; rw [show x = .str (mkS a) from r, show y = .bl b from q]; rfl
  | .str a, .int b => by intro x y _ _ r q; rw [show x = .str (mkS a) from r, show y = .int b from q]; rfl
  | .str a, .str b => by intro x y _ _ r q; rw [show x = .str (mkS a) from r, show y = .str (mkS b) from q]; exact mkS_beq a b
  | .tup _, _ => by intro x y f g; cases f
  | .lst _, _ => by intro x y f g; cases f
  | .dct _ _, _ => by intro x y f g; cases f
  | .opq _, _ => by intro x y f g; cases f
  | .exc _ _, _ => by intro x y f g; cases f
  | .fd _ _ _, _ => by intro x y f g; cases f
  | .fz _, _ => by intro x y f g; cases f
  | _, .tup _ => by intro x y f g; cases g
  | _, .lst _ => by intro x y f g; cases g
  | _, .dct _ _ => by intro x y f g; cases g
  | _, .opq _ => by intro x y f g; cases g
  | _, .exc _ _ => by intro x y f g; cases g
  | _, .fd _ _ _ => by intro x y f g; cases g
  | _, .fz _ => by intro x y f g; cases g
theorem eqV_ok {H : Hp} {a b : D} {x y : V} (f : a.flat = true) (g : b.flat = true) (r : Rep H a x) (q : Rep H b y) : eqV x y = D.eqv a b := eqV_ok' a b x y f g r q
theorem flats_ok {H : Hp} : ∀ {l : List D} {vs : List V}, l.all D.flat = true → Reps H l vs → vs.all flatV = true
  | [], _, _, h => by rw [show _ = [] from h]; rfl
  | d :: l, _, f, ⟨v, r, e, h, q⟩ => by
    subst e
    simp only [List.all_cons, Bool.and_eq_true] at f ⊢
    exact ⟨flat_ok f.1 h, flats_ok f.2 q⟩
theorem inV_ok {H : Hp} {a : D} {x : V} (f : a.flat = true) (r : Rep H a x) : ∀ {l : List D} {vs : List V}, l.all D.flat = true → Reps H l vs → inV x vs = l.any (fun d => D.eqv d a)
  | [], _, _, h => by rw [show _ = [] from h]; rfl
  | d :: l, _, g, ⟨v, q, e, h, k⟩ => by
    subst e
    simp only [List.all_cons, Bool.and_eq_true] at g
    have ih := inV_ok f r g.2 k
    unfold inV at ih ⊢
    rw [List.any_cons, List.any_cons, eqV_ok g.1 f h r, ih]
def inD (a : D) : D → Option Bool
  | .lst l => if a.flat = true ∧ l.all D.flat = true then some (l.any fun d => D.eqv d a) else none
  | .tup l => if a.flat = true ∧ l.all D.flat = true then some (l.any fun d => D.eqv d a) else none
  | .str z => match a with | .str [c] => some (decide (c ∈ z)) | _ => none
  | _ => none
def notInD (a b : D) : Option Bool := (inD a b).map not
def rInA (K : PySem.W.Frag) : R2 := fun x y H Q => rIn K false x y H Q ∨ (∃ (c : Nat) (z : Str), x = .str ⟨#[c]⟩ ∧ y = .str z ∧ Q (.bl (decide (c ∈ z.cps.toList))) H)
def rNotInA (K : PySem.W.Frag) : R2 := fun x y H Q => rIn K true x y H Q ∨ (∃ (c : Nat) (z : Str), x = .str ⟨#[c]⟩ ∧ y = .str z ∧ Q (.bl (!decide (c ∈ z.cps.toList))) H)
theorem op_inA {X : Cx} : OpR X (compareOp .In) (rInA X.K) := op_in_seq.or op_in_sign
theorem op_notInA {X : Cx} : OpR X (compareOp .NotIn) (rNotInA X.K) := op_notIn_seq.or op_notIn_sign
theorem in_cases {K : PySem.W.Frag} {H : Hp} {x y : V} {a b : D} {c : Bool} (ra : Rep H a x) (rb : Rep H b y) (e : inD a b = some c) :
    (∃ p xs, y = .ref p ∧ (SqL K H p xs ∨ SqT K H p xs) ∧ flatV x = true ∧ xs.all flatV = true ∧ inV x xs = c) ∨ ∃ (k : Nat) (z : Str), x = .str ⟨#[k]⟩ ∧ y = .str z ∧ decide (k ∈ z.cps.toList) = c := by
  cases b <;> try (cases e; done)
  · rename_i z
    cases a <;> try (cases e; done)
    rename_i w
    match w, e with
    | [k], e =>
      cases e
      exact .inr ⟨k, mkS z, ra, rb, by rw [mkS_cps]⟩
    | [], e => cases e
    | _ :: _ :: _, e => cases e
  · rename_i l
    simp only [inD] at e
    split at e
    · cases e
      rename_i h
      obtain ⟨p, xs, e, g, z, r⟩ := rb
      exact .inl ⟨p, xs, e, .inr (.inl (.inl g)), flat_ok h.1 ra, flats_ok h.2 r, inV_ok h.1 ra h.2 r⟩
    · cases e
  · rename_i l
    simp only [inD] at e
    split at e
    · cases e
      rename_i h
      obtain ⟨p, xs, e, g, z, r⟩ := rb
      exact .inl ⟨p, xs, e, .inl (.inl g), flat_ok h.1 ra, flats_ok h.2 r, inV_ok h.1 ra h.2 r⟩
    · cases e
theorem o_in {K : PySem.W.Frag} : Op2B (rInA K) inD := fun H x y a b c Q ra rb e q => by
  rcases in_cases (K := K) ra rb e with ⟨p, xs, e1, e2, e3, e4, e5⟩ | ⟨k, z, e1, e2, e3⟩
  · exact .inl ⟨p, xs, e1, e2, e3, e4, by simp only [Bool.false_eq_true, if_false]; rw [e5]; exact q⟩
  · exact .inr ⟨k, z, e1, e2, by rw [e3]; exact q⟩
theorem o_notIn {K : PySem.W.Frag} : Op2B (rNotInA K) notInD := fun H x y a b c Q ra rb e q => by
  unfold notInD at e
  cases e2 : inD a b with
  | none => rw [e2] at e; cases e
  | some c' =>
    rw [e2] at e
    cases e
    rcases in_cases (K := K) ra rb e2 with ⟨p, xs, e1, e2, e3, e4, e5⟩ | ⟨k, z, e1, e2, e3⟩
    · exact .inl ⟨p, xs, e1, e2, e3, e4, by simp only [if_true]; rw [e5]; exact q⟩
    · exact .inr ⟨k, z, e1, e2, by rw [e3]; exact q⟩
end VL

namespace VL
open PySem L2
variable [EC]

/-! lengths, items, slices -/
def lenD : D → Option D
  | .str x => if x.length ≤ 16777216 then some (.int x.length) else none
  | .lst l => some (.int l.length)
  | .tup l => some (.int l.length)
  | _ => none
def rLen (K : PySem.W.Frag) : List V → Hp → VK → Prop := fun xs H Q => ∃ x n, xs = [x] ∧ LenV K x H n ∧ Q (.int n) H
theorem o_len {K : PySem.W.Frag} : Op1C (fun x H Q => rLen K [x] H Q) lenD := fun G H x a c Q sm ra e q => by
  cases a <;> try (cases e; done)
  · simp only [lenD] at e
    split at e
    · cases e
      rename_i l h
      refine ⟨x, l.length, rfl, ?_, q _ rfl⟩
      rw [show x = .str (mkS l) from ra]
      exact ⟨by rw [mkS_len, sizeLine_eq]; exact h, (mkS_len l).symm⟩
    · cases e
  · cases e
    obtain ⟨p, vs, e, g, z, r⟩ := ra
    subst e
    exact ⟨_, _, rfl, .inr ⟨vs, .inl (.inl g), r.length⟩, q _ rfl⟩
  · cases e
    obtain ⟨p, vs, e, g, z, r⟩ := ra
    subst e
    exact ⟨_, _, rfl, .inl ⟨vs, .inl g, r.length⟩, q _ rfl⟩
theorem atI_reps {G : Hp} {l : List D} {vs : List V} {i : Int} {d : D} (r : Reps G l vs) (e : atI l i = some d) : ∃ v, atI vs i = some v ∧ Rep G d v := by
  unfold atI at e ⊢
  rw [← r.length]
  cases h : ixN l.length i with
  | none => rw [h] at e; cases e
  | some j =>
    rw [h] at e
    obtain ⟨v, a, b⟩ := r.get e
    exact ⟨v, a, b⟩
def ixD : D → D → Option D
  | .lst l, .int i => atI l i
  | .tup l, .int i => atI l i
  | .str x, .int i => if x.length ≤ 16777216 then (atI x i).map fun c => .str [c] else none
  | _, _ => none
def rIxA (K : PySem.W.Frag) : R2 := fun x y H Q => rIxL K x y H Q ∨ rIxT K x y H Q ∨ rIxS x y H Q
theorem ix_any {X : Cx} : IxR X (rIxA X.K) := fun value slice pins s σ H x y v u Q I rx ry h hs => by
  rcases h with h | h | h
  · exact ix_list value slice pins s σ H x y v u Q I rx ry h hs
  · exact ix_tup value slice pins s σ H x y v u Q I rx ry h hs
  · exact ix_str value slice pins s σ H x y v u Q I rx ry h hs
theorem o_ix {K : PySem.W.Frag} : Op2C (rIxA K) ixD := fun G H x y a b c Q sm ra rb e q => by
  cases a <;> cases b <;> try (cases e; done)
  · rename_i l i
    simp only [ixD] at e
    split at e
    · rename_i h
      cases e2 : atI l i with
      | none => rw [e2] at e; cases e
      | some k =>
        rw [e2] at e; cases e
        refine .inr (.inr ⟨mkS l, i, k, ra, rb, by rw [mkS_len, sizeLine_eq]; exact h, by rw [mkS_cps]; exact e2, q _ rfl⟩)
    · cases e
  · obtain ⟨p, vs, e1, g, z, r⟩ := ra
    obtain ⟨v, a1, a2⟩ := atI_reps r e
    exact .inr (.inl ⟨p, vs, _, v, e1, rb, .inl (.inl g), a1, q _ a2⟩)
  · obtain ⟨p, vs, e1, g, z, r⟩ := ra
    obtain ⟨v, a1, a2⟩ := atI_reps r e
    exact .inl ⟨p, vs, _, v, e1, rb, .inl g, a1, q _ a2⟩
/-- a slice's part -/
def cut {α : Type} (l : List α) (lo hi : Option Int) : List α := (l.drop (HT.sIx l.length 0 lo)).take (HT.sIx l.length l.length hi - HT.sIx l.length 0 lo)
theorem cut_len {α : Type} (l : List α) (lo hi : Option Int) : (cut l lo hi).length ≤ l.length := by
  unfold cut
  rw [List.length_take, List.length_drop]
  omega
def slL (lo hi : Option Int) : D → Option (List D)
  | .lst l => some (cut l lo hi)
  | _ => none
def slS (lo hi : Option Int) : D → Option D
  | .str x => if x.length ≤ 16777216 then some (.str (cut x lo hi)) else none
  | _ => none
section
variable {R : Type} {F : Fc} {tmp : Tmp} {s : State} {m : Res R} {K : Rs R} {N : Rn R} {Rt : Rr R} {ta tb : TE}
def RO (F : Fc) (tmp : Tmp) (s : State) (m : Res R) (t : TO) (K : Option Int → State → Res R → Prop) : Prop :=
  ∀ σ H Q, Holds F tmp s σ H → m ≠ .fail → EOk F m → (∀ o s' H', K o s' m → Holds F tmp s' σ H' → Q o H') → t σ H Q
theorem ro_none {K : Option Int → State → Res R → Prop} (k : K none s m) : RO F tmp s m tNoPart K := fun σ H Q hh _ _ q => q none s H k hh
theorem ro_some {K : Option Int → State → Res R → Prop} (h : RD F tmp s ta m (fun tm s1 m1 => ∃ d k, valS s1 tm = some d ∧ m1 = ob (asI d) k ∧ ∀ i, K (some i) s1 (k i))) : RO F tmp s m (tPart ta) K := fun σ H Q hh nf eo q =>
  h σ H _ hh nf eo fun tm s1 x H1 ⟨d, k, ea, em, hk⟩ h1 => by
    obtain ⟨c, ec, em'⟩ := ob_cases (by rw [← em]; exact nf)
    have h2 := h1
    obtain ⟨G, ω, h1⟩ := h1
    have r := h1.repC h1.tm.1 ea
    cases d <;> first | cases ec | skip
    exact ⟨_, r, q _ s1 H1 (by rw [em, em']; exact hk _) h2.pop⟩
theorem rd_slL {Kf : PySem.W.Frag} {tl th : TO} (h : RD F tmp s ta m (fun tm s1 m1 => ∀ x, RO F ((x, tm) :: tmp) s1 m1 tl (fun lo s2 m2 => RO F ((x, tm) :: tmp) s2 m2 th (fun hi s3 m3 => ∃ d k, valS s3 tm = some d ∧ m3 = ob (slL lo hi d) k ∧ ∀ c, K (.own (.l c)) s3 (k c))))) :
    RD F tmp s (tSl (rSlL Kf) ta tl th) m K := fun σ H Q hh nf eo q =>
  h σ H _ hh nf eo fun tm s1 x H1 h2 h1 => h2 x σ H1 _ h1 nf eo fun lo s2 H2 h3 hh2 => h3 σ H2 _ hh2 nf eo fun hi s3 H3 ⟨d, k, ea, em, hk⟩ hh3 => by
    obtain ⟨c, ec, em'⟩ := ob_cases (by rw [← em]; exact nf)
    obtain ⟨G, ω, h4⟩ := hh3
    have r := h4.repC h4.tm.1 ea
    cases d <;> first | cases ec | skip
    obtain ⟨p, vs, e1, g, z, r⟩ := r
    refine ⟨p, vs, e1, .inl g, fun p2 np => q _ s3 _ _ (by rw [em, em']; exact hk _) (h4.pop.newL np ?_ ?_)⟩
    · exact Nat.le_trans (cut_len _ lo hi) z
    · unfold cut cutV
      rw [← r.length]
      exact (r.drop _).take _
theorem rd_slS {tl th : TO} (h : RD F tmp s ta m (fun tm s1 m1 => ∀ x, RO F ((x, tm) :: tmp) s1 m1 tl (fun lo s2 m2 => RO F ((x, tm) :: tmp) s2 m2 th (fun hi s3 m3 => ∃ d k, valS s3 tm = some d ∧ m3 = ob (slS lo hi d) k ∧ ∀ c, K (.own (.f c)) s3 (k c))))) :
    RD F tmp s (tSl rSlS ta tl th) m K := fun σ H Q hh nf eo q =>
  h σ H _ hh nf eo fun tm s1 x H1 h2 h1 => h2 x σ H1 _ h1 nf eo fun lo s2 H2 h3 hh2 => h3 σ H2 _ hh2 nf eo fun hi s3 H3 ⟨d, k, ea, em, hk⟩ hh3 => by
    obtain ⟨c, ec, em'⟩ := ob_cases (by rw [← em]; exact nf)
    obtain ⟨G, ω, h4⟩ := hh3
    have r := h4.repC h4.tm.1 ea
    cases d <;> try (cases ec; done)
    rename_i l
    simp only [slS] at ec
    split at ec
    · cases ec
      rename_i hz
      refine ⟨mkS l, r, by rw [mkS_len, sizeLine_eq]; exact hz, q _ s3 _ _ (by rw [em, em']; exact hk _) ⟨G, ω, h4.pop.pushF ?_⟩⟩
      show V.str (cutS (mkS l) lo hi) = .str (mkS (cut l lo hi))
      unfold cutS cut
      rw [mkS_len, mkS_cps]; rfl
    · cases ec
end
/-! built-ins -/
def intD : D → Option D
  | .int i => some (.int i)
  | .bl b => some (.int (if b then 1 else 0))
  | .str x => if x.length ≤ 640 then (PySem.intText? (mkS x)).map .int else none
  | _ => none
def rInt : List V → Hp → VK → Prop := fun xs H Q => ((∃ i, xs = [.int i] ∧ Q (.int i) H) ∨ ∃ k, xs = [.bl k] ∧ Q (.int (if k then 1 else 0)) H) ∨ (∃ a n, xs = [.str a] ∧ PySem.intText? a = some n ∧ a.length ≤ 640 ∧ Q (.int n) H)
theorem CallR.or {X : Cx} {f : Value} {r r' : List V → Hp → VK → Prop} (h : CallR X f r) (h' : CallR X f r') : CallR X f (fun xs H Q => r xs H Q ∨ r' xs H Q) := by
  intro pins s σ H xs us Q I rv q
  rcases q with q | q
  · exact h pins s σ H xs us Q I rv q
  · exact h' pins s σ H xs us Q I rv q
theorem call_intA {X : Cx} : CallR X (.type "int") rInt := CallR.or call_int1 call_int_str
theorem o_int : Op1C (fun x H Q => rInt [x] H Q) intD := fun G H x a c Q sm ra e q => by
  cases a <;> try (cases e; done)
  · cases e
    exact .inl (.inr ⟨_, by rw [show x = _ from ra], q _ rfl⟩)
  · cases e
    exact .inl (.inl ⟨_, by rw [show x = _ from ra], q _ rfl⟩)
  · simp only [intD] at e
    split at e
    · rename_i l h
      cases e2 : PySem.intText? (mkS l) with
      | none => rw [e2] at e; cases e
      | some n =>
        rw [e2] at e; cases e
        exact .inr ⟨mkS l, n, by rw [show x = _ from ra], e2, by rw [mkS_len]; exact h, q _ rfl⟩
    · cases e
def listD : D → Option (List D) | .lst l => some l | .tup l => some l | _ => none
def rList (K : PySem.W.Frag) : List V → Hp → VK → Prop := fun xs H Q => ∃ p ys, xs = [V.ref p] ∧ (SqL K H p ys ∨ SqT K H p ys) ∧ ∀ (l : Addr), H l = none → Q (V.ref l) (upd H l (HO.lst ys))
theorem o_list {K : PySem.W.Frag} : Op1L (fun x H Q => rList K [x] H Q) listD := fun G H x a c Q sm ra e => by
  cases a <;> try (cases e; done)
  · cases e
    obtain ⟨p, vs, e, g, z, r⟩ := ra
    subst e
    exact ⟨z, fun q => ⟨p, vs, rfl, .inr (.inl (.inl g)), fun l nl => q l vs nl r⟩⟩
  · cases e
    obtain ⟨p, vs, e, g, z, r⟩ := ra
    subst e
    exact ⟨z, fun q => ⟨p, vs, rfl, .inl (.inl g), fun l nl => q l vs nl r⟩⟩
def minD : D → D → Option D | .int a, .int b => some (.int (if b < a then b else a)) | _, _ => none
def maxD : D → D → Option D | .int a, .int b => some (.int (if b > a then b else a)) | _, _ => none
theorem o_min : Op2C (fun x y H Q => (fun xs H Q => ∃ i j, xs = [V.int i, V.int j] ∧ Q (.int (if j < i then j else i)) H : List V → Hp → VK → Prop) [x, y] H Q) minD := fun G H x y a b c Q sm ra rb e q => by
  cases a <;> cases b <;> try (cases e; done)
  cases e
  exact ⟨_, _, by rw [show x = _ from ra, show y = _ from rb], q _ rfl⟩
theorem o_max : Op2C (fun x y H Q => (fun xs H Q => ∃ i j, xs = [V.int i, V.int j] ∧ Q (.int (if j > i then j else i)) H : List V → Hp → VK → Prop) [x, y] H Q) maxD := fun G H x y a b c Q sm ra rb e q => by
  cases a <;> cases b <;> try (cases e; done)
  cases e
  exact ⟨_, _, by rw [show x = _ from ra, show y = _ from rb], q _ rfl⟩
end VL

namespace VL
open PySem L2
variable [EC]

/-! temporaries in between -/
section
variable {F : Fc} {G H H' : Hp} {ω : Addr → Option Lab} {tmp : Tmp} {s : State} {σ : St} {v : V} {t : T} {d : D}
def phiMid (n e : Nat) : Lab → Option Lab
  | 1 :: j :: x => if j < n then some (1 :: j :: x) else if j < n + e then none else some (1 :: (j - e) :: x)
  | l => some l
theorem Tms.rlMid {φ : Lab → Option Lab} {tmp tmp' : Tmp} (h0 : Tms G H (VL.rl ω φ) σ tmp') (hlen : tmp'.length ≤ tmp.length) : ∀ (pre : Tmp), (∀ k x, k < pre.length → φ ([1, tmp.length + k] ++ x) = some ([1, tmp'.length + k] ++ x)) → Tms G H ω σ (pre ++ tmp) → Tms G H (VL.rl ω φ) σ (pre ++ tmp')
  | [], _, _ => h0
  | (v, tm) :: r, e, ⟨a, b⟩ => by
    refine ⟨?_, Tms.rlMid h0 hlen r (fun k x hk => e k x (Nat.lt_succ_of_lt hk)) b⟩
    cases tm with
    | own t =>
      have := e r.length
      refine Own.rl a fun x => ?_
      have q := e r.length x (Nat.lt_succ_self _)
      have l1 : (r.append tmp).length = tmp.length + r.length := by show (r ++ tmp).length = _; rw [List.length_append]; omega
      have l2 : (r.append tmp').length = tmp'.length + r.length := by show (r ++ tmp').length = _; rw [List.length_append]; omega
      rw [l1, l2]
      exact q
    | ali i => exact a
theorem Holds.dropMid {ex : Tmp} (pre : Tmp) (h : Holds F (pre ++ (ex ++ tmp)) s σ H) : Holds F (pre ++ tmp) s σ H := by
  obtain ⟨G, ω, h⟩ := h
  have ht : Tms G H ω σ tmp := Tms.tail ex (Tms.tail pre h.tm)
  refine ⟨G, rl ω (phiMid tmp.length ex.length), h.rl _ s σ _ h.len (fun j u e => ?_) ?_ h.pn⟩
  · obtain ⟨v', e1, e2⟩ := h.sl j u e
    exact ⟨v', e1, Own.rl e2 fun x => by simp [phiMid]⟩
  · refine Tms.rlMid (tmp := ex ++ tmp) (tmp' := tmp) (Tms.rl tmp (fun j x hj => ?_) ht) (by rw [List.length_append]; omega) pre (fun k x hk => ?_) h.tm
    · simp [phiMid, hj]
    · have h1 : ¬ (ex ++ tmp).length + k < tmp.length := by simp; omega
      have h2 : ¬ (ex ++ tmp).length + k < tmp.length + ex.length := by simp; omega
      have h3 : (ex ++ tmp).length + k - ex.length = tmp.length + k := by simp; omega
      simp only [phiMid, List.cons_append, List.nil_append]
      rw [if_neg h1, if_neg h2, h3]
theorem Tms.at {G H : Hp} {ω : Addr → Option Lab} {σ : St} {v : V} {tm : TM} {tmp : Tmp} : ∀ (pre : Tmp), Tms G H ω σ (pre ++ ((v, tm) :: tmp)) → TmOk G H ω σ [1, tmp.length] tm v
  | [], h => h.1
  | _ :: r, h => Tms.at r h.2
end
section
variable {R : Type} {F : Fc} {tmp : Tmp} {s : State} {m : Res R} {K : Rs R} {N : Rn R} {Rt : Rr R} {ta tb te to : TE}
abbrev Ki (R : Type) := Tmp → (State → Prop) → (State → State) → List D → State → Res R → Prop
/-! what a for walks -/
theorem ri_list {Kf : PySem.W.Frag} {K : Ki R} (h : RD F tmp s ta m (fun tm s1 m1 => ∃ ds, valS s1 tm = some (.lst ds) ∧ ∀ v, K [(v, tm)] (fun s => valS s tm = valS s1 tm) id ds s1 m1)) : RI F tmp s m (iList Kf ta) K := fun σ H Q hh nf eo q =>
  h σ H _ hh nf eo fun tm s1 x H1 ⟨ds, ea, hk⟩ h1 => by
    have at_ : ∀ (pre : Tmp) s σ H, valS s tm = some (.lst ds) → Holds F (pre ++ ([(x, tm)] ++ tmp)) s σ H → ∃ a vs G ω, x = .ref a ∧ Rd H a (.lst vs) ∧ Hd F G ω (pre ++ ([(x, tm)] ++ tmp)) s σ H ∧ Reps G ds vs ∧ ds.length ≤ sizeLine := fun pre s σ H e ⟨G, ω, h⟩ => by
      obtain ⟨a, vs, e1, g, z, r⟩ := h.repC (Tms.at (tm := tm) (tmp := tmp) pre h.tm) e
      exact ⟨a, vs, G, ω, e1, g, h, r, z⟩
    have hp' : ∀ {s : State}, valS s tm = valS s1 tm → valS s tm = some (.lst ds) := fun h => h.trans ea
    obtain ⟨a, vs, G, ω, e1, g, h2, r, z⟩ := at_ [] s1 σ H1 ea h1
    refine ⟨a, e1, ⟨vs, .inl g⟩, q [(x, tm)] _ id ds s1 (Itl Kf a) H1 (hk x) ⟨fun pre s σ H _ h => h.dropMid pre, z, fun s σ H i hp hh hi => ?_, fun s σ H hp hh => ?_, fun pre s σ H i d y H' hp hh hd hy => ?_⟩ h1⟩
    · obtain ⟨a', vs', G', ω', e2, g2, _, r2, _⟩ := at_ [] s σ H (hp' hp) hh
      rw [e1] at e2; cases e2
      have hl : i < vs'.length := by rw [← r2.length]; exact hi
      exact ⟨vs', vs'[i], .inl g2, by simp [hl]⟩
    · obtain ⟨a', vs', G', ω', e2, g2, _, r2, _⟩ := at_ [] s σ H (hp' hp) hh
      rw [e1] at e2; cases e2
      exact ⟨vs', .inl g2, by rw [r2.length]; exact Nat.le_refl _⟩
    · obtain ⟨a', vs', G', ω', e2, g2, h3, r2, _⟩ := at_ pre s σ H (hp' hp) hh
      rw [e1] at e2; cases e2
      obtain ⟨rfl, hy⟩ := hy
      have hy := hy vs' (.inl g2)
      obtain ⟨w, w1, w2⟩ := r2.get hd
      rw [hy] at w1; cases w1
      exact ⟨G', ω', h3.pushF w2⟩
def rngD (a b : D) : Option (List D) := match a, b with
  | .int i, .int j => if -1000000000 ≤ i ∧ i ≤ 1000000000 ∧ -1000000000 ≤ j ∧ j ≤ 1000000000 ∧ j - i ≤ 16777216 then some ((List.range (j - i).toNat).map fun k => .int (i + (k : Nat))) else none
  | _, _ => none
theorem it_range {lo : Int} {n : Nat} (hn : n ≤ 16777216) : ItOk F tmp ([] ++ tmp) (fun _ => True) id (Itr lo n) ((List.range n).map fun k => .int (lo + (k : Nat))) := by
  refine ⟨fun pre s σ H _ h => h.dropMid (ex := []) pre, by rw [sizeLine_eq]; simpa using hn, fun s σ H i _ _ hi => by show i < n; simpa using hi, fun s σ H _ _ => by show n ≤ _; simp, fun pre s σ H i d x H' _ hh hd hy => ?_⟩
  obtain ⟨rfl, rfl⟩ := hy
  rw [List.getElem?_map] at hd
  cases e : (List.range n)[i]? with
  | none => rw [e] at hd; cases hd
  | some k =>
    rw [e] at hd
    cases hd
    have : i = k := by
      rw [List.getElem?_range (by have := (List.getElem?_eq_some_iff.mp e).1; simpa using this)] at e
      exact Option.some.inj e
    subst this
    exact holds_push (d := .int _) hh fun _ => rfl
theorem ri_range1 {K : Ki R} (h : RD F tmp s ta m (fun tm s1 m1 => ∃ d k, valS s1 tm = some d ∧ m1 = ob (rngD (.int 0) d) k ∧ ∀ ds, K [] (fun _ => True) id ds s1 (k ds))) : RI F tmp s m (iRng1 (tCons ta tNil)) K := fun σ H Q hh nf eo q =>
  h σ H _ hh nf eo fun tm s1 x H1 ⟨d, k, ea, em, hk⟩ h1 => by
    obtain ⟨c, ec, em'⟩ := ob_cases (by rw [← em]; exact nf)
    have h2 := h1
    obtain ⟨G, ω, h1⟩ := h1
    have r := h1.repC h1.tm.1 ea
    cases d <;> try (cases ec; done)
    rename_i j
    simp only [rngD] at ec
    split at ec
    · cases ec
      rename_i hb
      have r' : x = .int j := r
      subst r'
      refine ⟨j, rfl, by omega, by omega, q [] _ id _ s1 _ H1 (by rw [em, em']; exact hk _) ?_ h2.pop⟩
      have := it_range (F := F) (tmp := tmp) (lo := 0) (n := j.toNat) (by omega)
      simpa using this
    · cases ec
def strL (x : List Nat) : List D := x.map fun c => .str [c]
def strLD : D → Option (List D) | .str x => if x.length ≤ 16777216 then some (strL x) else none | _ => none
theorem ri_str {K : Ki R} (h : RD F tmp s ta m (fun tm s1 m1 => ∃ d k, valS s1 tm = some d ∧ m1 = ob (strLD d) k ∧ ∀ ds, K [] (fun _ => True) id ds s1 (k ds))) : RI F tmp s m (iStr ta) K := fun σ H Q hh nf eo q =>
  h σ H _ hh nf eo fun tm s1 x H1 ⟨d, k, ea, em, hk⟩ h1 => by
    obtain ⟨c, ec, em'⟩ := ob_cases (by rw [← em]; exact nf)
    have h2 := h1
    obtain ⟨G, ω, h1⟩ := h1
    have r := h1.repC h1.tm.1 ea
    cases d <;> try (cases ec; done)
    rename_i z
    simp only [strLD] at ec
    split at ec
    · rename_i hz
      cases ec
      have r' : x = .str (mkS z) := r
      refine ⟨mkS z, r', q [] _ id _ s1 _ H1 (by rw [em, em']; exact hk _) ⟨fun pre s σ H _ h => h.dropMid (ex := []) pre, by rw [sizeLine_eq]; simpa [strL] using hz, fun s σ H i _ _ hi => ?_, fun s σ H _ _ => ?_, fun pre s σ H i d x H' _ hh hd hy => ?_⟩ h2.pop⟩
      · exact (walk_str (z := mkS z)).goes i H (by simpa [strL, mkS] using hi) trivial
      · have := (walk_str (z := mkS z)).stops H trivial
        simpa [strL, mkS] using this
      · obtain ⟨rfl, c, c1, rfl⟩ := hy
        unfold strL at hd
        rw [List.getElem?_map] at hd
        have : z[i]? = some c := by
          have h5 : (mkS z).cps[i]? = some c := c1
          simpa [mkS] using h5
        rw [this] at hd
        cases hd
        exact holds_push (d := .str [c]) hh fun _ => rfl
    · cases ec
/-! targets of two names -/
end
end VL

namespace VL
open PySem L2
variable [EC]

/-! methods of lists in slots -/
def apL (ds : List D) (d : D) : Option (List D) := if ds.length < 16777216 then some (ds ++ [d]) else none
def popAtL (ds : List D) : D → Option (D × List D)
  | .int i => match ixN ds.length i with
    | some k => match ds[k]? with | some d => some (d, ds.eraseIdx k) | none => none
    | none => none
  | _ => none
def setL (ds : List D) (k : D) (d : D) : Option (List D) := match k with
  | .int i => (ixN ds.length i).map fun j => ds.set j d
  | _ => none
section
variable {R : Type} {F : Fc} {tmp : Tmp} {s : State} {m : Res R} {K : Rs R} {N : Rn R} {Rt : Rr R} {ta tb te to : TE} {Kf : PySem.W.Frag}
theorem Holds.tyL {i : Nat} {ds : List D} {x : V} {σ : St} {H : Hp} (h : Holds F ((x, .ali i) :: tmp) s σ H) (hi : s[i]? = some (some (.l ds))) : tyV Kf "list" x H ∧ σ[i]? = some (some x) := by
  obtain ⟨G, ω, h⟩ := h
  obtain ⟨v, e1, a, vs, e2, ha, hw, z, r⟩ := h.sl i _ hi
  have ok : σ[i]? = some (some x) := h.tm.1
  rw [ok] at e1
  cases e1
  subst e2
  exact ⟨.inl ⟨rfl, vs, .inl (.inl ha)⟩, ok⟩
theorem rd_append (h : RD F tmp s to m (fun tm1 s1 m1 => ∃ i ds0, tm1 = .ali i ∧ s1[i]? = some (some (.l ds0)) ∧ ∀ x, RD F ((x, .ali i) :: tmp) s1 te m1 (fun tm2 s2 m2 => ∃ d ds k, tm2 = .own (.f d) ∧ s2[i]? = some (some (.l ds)) ∧ m2 = ob (apL ds d) k ∧ ∀ ds', K (.own (.f .non)) (s2.set i (some (.l ds'))) (k ds')))) :
    RD F tmp s (tBM Kf "list" rAppend to (tCons te tNil)) m K := fun σ H Q hh nf eo q =>
  h σ H _ hh nf eo fun tm1 s1 x H1 ⟨i, ds0, e1, hi0, h2⟩ h1 => by
    subst e1
    refine ⟨(h1.tyL hi0).1, h2 x σ H1 _ h1 nf eo fun tm2 s2 y H2 ⟨d, ds, k, e2, hi, em, hk⟩ h3 => ?_⟩
    subst e2
    obtain ⟨c, ec, em'⟩ := ob_cases (by rw [← em]; exact nf)
    obtain ⟨a, vs, sa, ha, hl, hz, _, up⟩ := h3.wrSlot hi
    have ex := (h3.pop.tyL (Kf := Kf) hi).2
    rw [sa] at ex; cases ex
    unfold apL at ec
    split at ec
    · cases ec
      rename_i hlt
      refine ⟨a, vs, y, rfl, rfl, ha, by rw [hl, sizeLine_eq]; exact hlt, ?_⟩
      have h4 := up (ds ++ [d]) (vs ++ [y]) (by rw [sizeLine_eq]; simp; omega) fun G _ _ r ht => r.append ⟨y, [], rfl, ht _ _ rfl d rfl, rfl⟩
      exact q _ _ .non _ (by rw [em, em']; exact hk _) (holds_push (d := .non) h4.pop.pop fun _ => rfl)
    · cases ec
theorem rd_popAt (h : RD F tmp s to m (fun tm1 s1 m1 => ∃ i ds0, tm1 = .ali i ∧ s1[i]? = some (some (.l ds0)) ∧ ∀ x, RD F ((x, .ali i) :: tmp) s1 te m1 (fun tm2 s2 m2 => ∃ di ds k, valS s2 tm2 = some di ∧ s2[i]? = some (some (.l ds)) ∧ m2 = ob (popAtL ds di) k ∧ ∀ p : D × List D, K (.own (.f p.1)) (s2.set i (some (.l p.2))) (k p)))) :
    RD F tmp s (tBM Kf "list" rPopAt to (tCons te tNil)) m K := fun σ H Q hh nf eo q =>
  h σ H _ hh nf eo fun tm1 s1 x H1 ⟨i, ds0, e1, hi0, h2⟩ h1 => by
    subst e1
    refine ⟨(h1.tyL hi0).1, h2 x σ H1 _ h1 nf eo fun tm2 s2 y H2 ⟨di, ds, k, e2, hi, em, hk⟩ h3 => ?_⟩
    obtain ⟨c, ec, em'⟩ := ob_cases (by rw [← em]; exact nf)
    have ey : ∃ j, di = .int j ∧ y = .int j := by
      obtain ⟨G, ω, h4⟩ := h3
      have r := h4.repC h4.tm.1 e2
      cases di <;> try (cases ec; done)
      exact ⟨_, rfl, r⟩
    obtain ⟨j, rfl, rfl⟩ := ey
    have h3 := h3.pop
    obtain ⟨a, vs, sa, ha, hl, hz, get, _⟩ := h3.wrSlot hi
    have ex := (h3.tyL (Kf := Kf) hi).2
    rw [sa] at ex; cases ex
    simp only [popAtL] at ec
    split at ec
    · rename_i k0 hk0
      split at ec
      · rename_i d hd
        cases ec
        obtain ⟨v, e2, hp⟩ := get _ _ hd
        have h2 := hp (x := v) rfl
        obtain ⟨a', vs', sa', ha', hl', hz', _, up⟩ := h2.wrSlot hi
        rw [sa] at sa'; cases sa'
        rw [ha] at ha'; cases ha'
        obtain ⟨i1, i2, i3, i4⟩ := ixN_seq hk0
        have hb : (ds.length : Int) ≤ 16777216 := by rw [sizeLine_eq] at hz; omega
        refine ⟨a, vs, j, k0, v, rfl, rfl, ha, by omega, by omega, by rw [hl]; exact i1, e2, ?_⟩
        have h4 := up (ds.eraseIdx k0) (vs.eraseIdx k0) (by rw [List.length_eraseIdx]; split <;> omega) fun G _ _ r ht => r.eraseIdx k0
        obtain ⟨G, ω, h4⟩ := h4
        exact q _ _ v _ (by rw [em, em']; exact hk (_, _)) ⟨G, ω, h4.pop.pop.pushF h4.topF⟩
      · cases ec
    · cases ec
/-- x[i] = v -/
theorem rs_setL (h : RD F tmp s te m (fun tm1 s1 m1 => ∃ d, tm1 = .own (.f d) ∧ ∀ v, RD F ((v, .own (.f d)) :: tmp) s1 to m1 (fun tm2 s2 m2 => ∃ i, tm2 = .ali i ∧ ∀ x, RD F ((x, .ali i) :: (v, .own (.f d)) :: tmp) s2 ta m2 (fun tm3 s3 m3 => ∃ dk ds k, valS s3 tm3 = some dk ∧ s3[i]? = some (some (.l ds)) ∧ m3 = ob (setL ds dk d) k ∧ ∀ ds', N (s3.set i (some (.l ds'))) (k ds'))))) :
    RS F tmp s m (tAsg te (gSub to ta rSetL)) N Rt := fun σ H De hh nf eo nx rt =>
  h σ H _ hh nf eo fun tm1 s1 v H1 ⟨d, e1, h2⟩ h1 => by
    subst e1
    refine h2 v σ H1 _ h1 nf eo fun tm2 s2 x H2 ⟨i, e2, h4⟩ h3 => ?_
    subst e2
    refine h4 x σ H2 _ h3 nf eo fun tm3 s3 y H3 ⟨dk, ds, k, ea, hi, em, hk⟩ h5 => ?_
    obtain ⟨c, ec, em'⟩ := ob_cases (by rw [← em]; exact nf)
    have ey : ∃ j, dk = .int j ∧ y = .int j := by
      obtain ⟨G, ω, h6⟩ := h5
      have r := h6.repC h6.tm.1 ea
      cases dk <;> try (cases ec; done)
      exact ⟨_, rfl, r⟩
    obtain ⟨j, rfl, rfl⟩ := ey
    have h6 := h5.pop
    have ex := (h6.tyL (Kf := F.K) hi).2
    have h7 := h6.pop
    obtain ⟨a, vs, sa, ha, hl, hz, _, up⟩ := h7.wrSlot hi
    rw [sa] at ex; cases ex
    simp only [setL] at ec
    cases e3 : ixN ds.length j with
    | none => rw [e3] at ec; cases ec
    | some n =>
      rw [e3] at ec
      cases ec
      refine ⟨a, vs, j, n, rfl, rfl, ha, by rw [hl]; exact e3, ?_⟩
      have h8 := up (ds.set n d) (vs.set n v) (by simpa using hz) fun G _ _ r ht => r.set n (ht _ _ rfl d rfl)
      exact nx _ σ _ (by rw [em, em']; exact hk _) h8.pop
/-! lists by values -/
def strsD : List D → Option (List (List Nat))
  | [] => some []
  | .str x :: r => (strsD r).map (x :: ·)
  | _ :: _ => none
theorem strs_ok {G : Hp} : ∀ {l : List D} {ys : List (List Nat)} {vs : List V}, strsD l = some ys → Reps G l vs → vs = (ys.map mkS).map V.str
  | [], ys, vs, e, h => by cases e; exact h
  | .str x :: r, ys, vs, e, ⟨v, q, e1, h, k⟩ => by
    cases e2 : strsD r with
    | none => simp [strsD, e2] at e
    | some ys' =>
      simp [strsD, e2] at e
      subst e
      rw [e1, show v = .str (mkS x) from h, strs_ok e2 k]
      rfl
  | .non :: _, _, _, e, _ => by cases e
  | .bl _ :: _, _, _, e, _ => by cases e
  | .int _ :: _, _, _, e, _ => by cases e
  | .tup _ :: _, _, _, e, _ => by cases e
  | .lst _ :: _, _, _, e, _ => by cases e
  | .dct _ _ :: _, _, _, e, _ => by cases e
  | .opq _ :: _, _, _, e, _ => by cases e
  | .exc _ _ :: _, _, _, e, _ => by cases e
  | .fd _ _ _ :: _, _, _, e, _ => by cases e
  | .fz _ :: _, _, _, e, _ => by cases e
def joinS (a : List Nat) : List (List Nat) → List Nat
  | [] => []
  | [x] => x
  | x :: r => x ++ a ++ joinS a r
def joinD : D → D → Option D
  | .str a, .lst l => match strsD l with
    | some ys => if (ys.map List.length).sum + ys.length * a.length ≤ 16777216 then some (.str (joinS a ys)) else none
    | none => none
  | _, _ => none
end
/-! isinstance -/
inductive Kn where | int | str | bool | list | tuple | dict
def Kn.nm : Kn → String | .int => "int" | .str => "str" | .bool => "bool" | .list => "list" | .tuple => "tuple" | .dict => "dict"
def isK : D → Kn → Option Bool
  | .non, _ => some false
  | .bl _, .bool => some true
  | .bl _, .int => some true
  | .bl _, _ => some false
  | .int _, .int => some true
  | .int _, _ => some false
  | .str _, .str => some true
  | .str _, _ => some false
  | .tup _, .tuple => some true
  | .tup _, _ => some false
  | .lst _, .list => some true
  | .lst _, _ => some false
  | .dct false _, .dict => some true
  | .dct false _, _ => some false
  | .dct true _, _ => none
  | .opq _, _ => none
  | .exc _ _, _ => none
  | .fd _ _ _, _ => none
  | .fz _, _ => none
def isO : D → Bool | .opq _ => true | .exc _ _ => true | .fd _ _ _ => true | .fz _ => true | .dct true _ => true | _ => false
def tyN : D → String | .non => "NoneType" | .bl _ => "bool" | .int _ => "int" | .str _ => "str" | .tup _ => "tuple" | .lst _ => "list" | .dct _ _ => "dict" | .opq _ => "" | .exc _ _ => "" | .fd _ _ _ => "" | .fz _ => ""
theorem ty_ok {K : PySem.W.Frag} {H : Hp} : ∀ (d : D) (x : V), isO d = false → Rep H d x → TyX K H x (.type (tyN d))
  | .non, x, _, h => by rw [show x = .non from h]; exact .base .non
  | .bl b, x, _, h => by rw [show x = .bl b from h]; exact .base (.bl b)
  | .int b, x, _, h => by rw [show x = .int b from h]; exact .base (.int b)
  | .str b, x, _, h => by rw [show x = .str (mkS b) from h]; exact .base (.str _)
  | .tup l, x, _, ⟨a, vs, e, g, _, _⟩ => by rw [e]; exact .base (.tup g)
  | .lst l, x, _, ⟨a, vs, e, .inl g, _, _⟩ => by rw [e]; exact .base (.lst g)
  | .lst l, x, _, ⟨a, vs, e, .inr ⟨o, g⟩, _, _⟩ => by rw [e]; exact .base (.frz g)
  | .dct false l, x, _, ⟨a, kvs, e, .inl g, _⟩ => by rw [e]; exact .base (.dK g)
  | .dct false l, x, _, ⟨a, kvs, e, .inr ⟨o, g⟩, _⟩ => by rw [e]; exact .fDict g
  | .dct true l, x, n, _ => by cases n
  | .opq w, x, n, _ => by cases n
  | .exc _ _, x, n, _ => by cases n
  | .fd _ _ _, x, n, _ => by cases n
  | .fz _, x, n, _ => by cases n
theorem kitB_ok : ∀ (d : D) (k : Kn) (c : Bool), isK d k = some c → kitB (tyN d) k.nm = some c := by
  intro d k c e
  cases d <;> cases k <;> first | cases e | skip
  all_goals try (rename_i b _; cases b <;> first | cases e | skip)
  all_goals (simp only [tyN, Kn.nm]; decide +kernel)
section
variable {R : Type} {F : Fc} {tmp : Tmp} {s : State} {m : Res R} {K : Rs R} {ta tb te to : TE} {Kf : PySem.W.Frag}
theorem rd_isi (kn : Kn) (h : RD F tmp s ta m (fun tm1 s1 m1 => ∃ a k, valT s1 tm1 = some a ∧ m1 = ob (isK a kn) k ∧ ∀ c, K (.own (.f (.bl c))) s1 (k c))) : RD F tmp s (tCB (rIsi Kf) (tCons ta (tCons (tC (.ty kn.nm)) tNil))) m K := fun σ H Q hh nf eo q =>
  h σ H _ hh nf eo fun tm1 s1 x H1 ⟨a, k, ea, em, hk⟩ h1 => by
    obtain ⟨c, ec, em'⟩ := ob_cases (by rw [← em]; exact nf)
    have h3 := h1
    obtain ⟨G, ω, h2⟩ := h1
    have r := h2.repT h2.tm.1 ea
    have no : isO a = false := by cases a <;> first | rfl | cases ec | (rename_i b _; cases b <;> first | rfl | cases ec)
    exact ⟨x, .ty kn.nm, .type (tyN a), .type kn.nm, c, rfl, .ty _, ty_ok a x no r, kit_ty (kitB_ok a kn c ec), q _ s1 _ H1 (by rw [em, em']; exact hk c) (holds_bl h3.pop)⟩
end
end VL

namespace VL
open PySem L2
variable [EC]

/-! join, lists put together -/
theorem join_ok (a : List Nat) : ∀ ys : List (List Nat), Txt.join (mkS a) (ys.map mkS) = mkS (joinS a ys) := by
  intro ys
  show Builtin.Str.glued (mkS a) (ys.map mkS) = _
  rw [StrLaws.glued_eq_join]
  induction ys with
  | nil => rfl
  | cons x r ih =>
    cases r with
    | nil => rfl
    | cons y q =>
      show mkS x ++ mkS a ++ Str.join (mkS a) ((y :: q).map mkS) = mkS (x ++ a ++ joinS a (y :: q))
      rw [ih, mkS_app, mkS_app]
def rCatR : R2 := fun x y H Q => ∃ l b xs zs, x = .ref l ∧ y = .ref b ∧ Rd H l (.lst xs) ∧ Rd H b (.lst zs) ∧ xs.length + zs.length ≤ sizeLine ∧ ∀ p, H p = none → Q (.ref p) (upd H p (.lst (xs ++ zs)))
theorem op_catR {X : Cx} : OpR X (binaryOp .Add) rCatR := by
  intro pins s σ H x y v u Q I rx ry h
  obtain ⟨l, b, xs, zs, e1, e2, hH, hB, hz, q⟩ := h
  subst e1; subst e2
  cases rx
  cases ry
  obtain ⟨z, its, n, r, ho⟩ := hH.ok I.hok
  obtain ⟨z2, its2, n2, r2, ho2⟩ := hB.ok I.hok
  refine PySem.P.add_list ho ho2 ?_ (by rw [List.size_toArray, List.size_toArray, ← r.length, ← r2.length]; exact hz)
  rw [show its.toArray ++ its2.toArray = (its ++ its2).toArray by simp]
  exact ⟨.ref _, _, I.lnew (t' := s.toks) (r.append r2) (by rw [List.length_append]; exact hz), rfl, q _ I.fresh⟩
def catD : D → D → Option (List D)
  | .lst a, .lst b => if a.length + b.length ≤ 16777216 then some (a ++ b) else none
  | _, _ => none
theorem o_cat : Op2L rCatR catD := fun G H x y a b c Q sm ra rb e => by
  cases a <;> cases b <;> try (cases e; done)
  rename_i l m
  simp only [catD] at e
  split at e
  · rename_i hz
    cases e
    obtain ⟨p, vs, e1, g1, z1, r1⟩ := ra
    obtain ⟨p2, ws, e2, g2, z2, r2⟩ := rb
    refine ⟨by rw [sizeLine_eq, List.length_append]; exact hz, fun q => ⟨p, p2, vs, ws, e1, e2, g1, g2, by rw [← r1.length, ← r2.length, sizeLine_eq]; exact hz, fun p3 np => q p3 _ np (r1.append r2)⟩⟩
  · cases e
theorem Reps.rep {G : Hp} {l : List D} {vs : List V} (h : Reps G l vs) : ∀ n, Reps G (List.replicate n l).flatten (List.replicate n vs).flatten
  | 0 => rfl
  | n + 1 => by
    rw [List.replicate_succ, List.replicate_succ, List.flatten_cons, List.flatten_cons]
    exact h.append (Reps.rep h n)
section
variable {R : Type} {F : Fc} {tmp : Tmp} {s : State} {m : Res R} {K : Rs R} {N : Rn R} {Rt : Rr R} {ta tb te to td ty tv : TE} {Kf : PySem.W.Frag}
/-- sep.join(xs) -/
theorem rd_join (h : RD F tmp s to m (fun tm1 s1 m1 => (∃ a0, valS s1 tm1 = some (.str a0)) ∧ ∀ x, RD F ((x, tm1) :: tmp) s1 te m1 (fun tm2 s2 m2 => ∃ a b k, valS s2 tm1 = some a ∧ valS s2 tm2 = some b ∧ m2 = ob (joinD a b) k ∧ ∀ c, K (.own (.f c)) s2 (k c)))) :
    RD F tmp s (tM1 (fun x xs H Q => ∃ a p ys, x = V.str a ∧ xs = [V.ref p] ∧ (SqL Kf H p (List.map V.str ys) ∨ SqT Kf H p (List.map V.str ys)) ∧ (List.map (fun x : Str => x.length) ys).sum + ys.length * a.length ≤ 16777216 ∧ Q (V.str (Txt.join a ys)) H) to te) m K := fun σ H Q hh nf eo q =>
  h σ H _ hh nf eo fun tm1 s1 x H1 ⟨⟨a0, e0⟩, h2⟩ h1 => by
    refine ⟨?_, h2 x σ H1 _ h1 nf eo fun tm2 s2 y H2 ⟨a, b, k, ea, eb, em, hk⟩ h3 => ?_⟩
    · obtain ⟨G, ω, h4⟩ := h1
      exact ⟨_, h4.repC h4.tm.1 e0⟩
    obtain ⟨c, ec, em'⟩ := ob_cases (by rw [← em]; exact nf)
    have h5 := h3
    obtain ⟨G, ω, h4⟩ := h3
    have ra := h4.repC h4.tm.2.1 ea
    have rb := h4.repC h4.tm.1 eb
    cases a <;> cases b <;> try (cases ec; done)
    rename_i z l
    simp only [joinD] at ec
    split at ec
    · rename_i ys hs
      split at ec
      · rename_i hz
        cases ec
        obtain ⟨p, vs, e1, g, zz, r⟩ := rb
        have hv := strs_ok hs r
        subst hv
        refine ⟨mkS z, p, ys.map mkS, ra, by rw [show y = .ref p from e1], .inl (.inl g), ?_, ?_⟩
        · rw [List.map_map, List.length_map, mkS_len]
          have : ((fun x : Str => x.length) ∘ mkS) = List.length := by funext w; exact mkS_len w
          rw [this]; exact hz
        · rw [join_ok]
          exact q _ s2 _ H2 (by rw [em, em']; exact hk _) (holds_push (d := .str _) h5.pop.pop fun _ => rfl)
      · cases ec
    · cases ec
/-! str of a whole number -/
end
/-! dicts -/
section
variable {R : Type} {F : Fc} {tmp : Tmp} {s : State} {m : Res R} {K : Rs R} {N : Rn R} {Rt : Rr R} {ta tb te to td ty tv tx : TE} {Kf : PySem.W.Frag}
theorem rd_dnewK (k : K (.own (.dc false [])) s m) : RD F tmp s tDNewK m K := fun σ H Q hh nf eo q => fun p np => by
  obtain ⟨G, ω, h⟩ := hh
  exact q _ s _ _ k ⟨G, _, h.newO np ⟨p, [], rfl, by simp, upd_same, rfl⟩⟩
end
end VL

namespace VL
open PySem L2
variable [EC]

/-! a call that reads owned things -/
mutual
def T.fl : T → Bool
  | .f d => d.flat
  | .l ds => ds.all D.flat
  | .ll ts => T.fls ts
  | .tt ts => T.fls ts
  | .dc false kvs => kvs.all fun kv => kv.2.flat
  | .dc true _ => false
  | .dl _ ts => T.fls ts
  | .nx _ _ _ => false
  | .no _ _ _ => false
  | .lf _ => false
  | .ob _ _ _ => false
  | .hole _ => true
def T.fls : List T → Bool
  | [] => true
  | t :: r => T.fl t && T.fls r
end
theorem Rep.flat {G G' : Hp} : ∀ {d : D} {v : V}, d.flat = true → Rep G d v → Rep G' d v
  | .non, _, _, h => h
  | .bl _, _, _, h => h
  | .int _, _, _, h => h
  | .str _, _, _, h => h
  | .tup _, _, f, _ => by cases f
  | .lst _, _, f, _ => by cases f
  | .dct _ _, _, f, _ => by cases f
  | .opq _, _, f, _ => by cases f
  | .exc _ _, _, f, _ => by cases f
  | .fd _ _ _, _, f, _ => by cases f
  | .fz _, _, f, _ => by cases f
theorem Reps.flat {G G' : Hp} : ∀ {l : List D} {vs : List V}, l.all D.flat = true → Reps G l vs → Reps G' l vs
  | [], _, _, h => h
  | d :: r, _, f, ⟨v, q, e, h, k⟩ => by
    simp only [List.all_cons, Bool.and_eq_true] at f
    exact ⟨v, q, e, Rep.flat f.1 h, Reps.flat f.2 k⟩
theorem RepK.flat {G G' : Hp} : ∀ {l : List (D × D)} {vs : List (Key × V)}, (l.all fun kv => kv.2.flat) = true → RepK G l vs → RepK G' l vs
  | [], _, _, h => h
  | (a, d) :: r, _, f, ⟨kk, v, q, e, ek, h, k⟩ => by
    simp only [List.all_cons, Bool.and_eq_true] at f
    exact ⟨kk, v, q, e, ek, Rep.flat f.1 h, RepK.flat f.2 k⟩
mutual
theorem Own.flat {G G' H H' : Hp} {ω ω' : Addr → Option Lab} : ∀ (p q : Lab) (t : T) (v : V), t.fl = true → (∀ a x, ω a = some (p ++ x) → H' a = H a ∧ ω' a = some (q ++ x)) → Own G H ω p t v → Own G' H' ω' q t v
  | _, _, .f d, v, f, _, h => Rep.flat f h
  | p, q, .l ds, v, f, m, ⟨a, vs, e, h, w, z, r⟩ => by
    obtain ⟨m1, m2⟩ := m a [] (by rw [List.append_nil]; exact w)
    rw [List.append_nil] at m2
    exact ⟨a, vs, e, m1.trans h, m2, z, Reps.flat f r⟩
  | p, q, .ll ts, v, f, m, ⟨a, vs, e, h, w, z, r⟩ => by
    obtain ⟨m1, m2⟩ := m a [] (by rw [List.append_nil]; exact w)
    rw [List.append_nil] at m2
    exact ⟨a, vs, e, m1.trans h, m2, z, Owns.flat p q 0 ts vs f m r⟩
  | p, q, .tt ts, v, f, m, ⟨a, vs, e, h, w, z, r⟩ => by
    obtain ⟨m1, m2⟩ := m a [] (by rw [List.append_nil]; exact w)
    rw [List.append_nil] at m2
    exact ⟨a, vs, e, m1.trans h, m2, z, Owns.flat p q 0 ts vs f m r⟩
  | p, q, .dc false l, v, f, m, ⟨a, kvs, e, w, h, r⟩ => by
    obtain ⟨m1, m2⟩ := m a [] (by rw [List.append_nil]; exact w)
    rw [List.append_nil] at m2
    exact ⟨a, kvs, e, m2, m1.trans h, RepK.flat f r⟩
  | p, q, .dc true l, v, f, m, h => by cases f
  | p, q, .nx _ _ _, v, f, m, h => by cases f
  | p, q, .no _ _ _, v, f, m, h => by cases f
  | p, q, .lf _, v, f, m, h => by cases f
  | p, q, .dl ks ts, v, f, m, ⟨a, kvs, e, w, h, ek, r⟩ => by
    obtain ⟨m1, m2⟩ := m a [] (by rw [List.append_nil]; exact w)
    rw [List.append_nil] at m2
    exact ⟨a, kvs, e, m2, m1.trans h, ek, Owns.flat p q 0 ts _ f m r⟩
  | p, q, .ob _ _ _, v, f, m, h => by cases f
  | _, _, .hole _, _, _, _, h => h
theorem Owns.flat {G G' H H' : Hp} {ω ω' : Addr → Option Lab} : ∀ (p q : Lab) (i : Nat) (ts : List T) (vs : List V), T.fls ts = true → (∀ a x, ω a = some (p ++ x) → H' a = H a ∧ ω' a = some (q ++ x)) → Owns G H ω p i ts vs → Owns G' H' ω' q i ts vs
  | _, _, _, [], _, _, _, h => h
  | p, q, i, t :: ts, _, f, m, ⟨v, r, e, h, k⟩ => by
    simp only [T.fls, Bool.and_eq_true] at f
    exact ⟨v, r, e, Own.flat (p ++ [i]) (q ++ [i]) t v f.1 (fun a x e => by
      rw [List.append_assoc] at e ⊢
      exact m a _ e) h, Owns.flat p q (i + 1) ts r f.2 m k⟩
end
end VL

namespace VL
open PySem L2
variable [EC]

/-! owned lists of owned things -/
section
variable {G G' H H' : Hp} {ω ω' : Addr → Option Lab}
theorem Owns.len : ∀ {ts : List T} {vs : List V} {p : Lab} {i : Nat}, Owns G H ω p i ts vs → ts.length = vs.length
  | [], _, _, _, h => by cases (show _ = [] from h); rfl
  | t :: ts, _, _, _, ⟨v, r, e, _, k⟩ => by subst e; simp [Owns.len k]
theorem Owns.get : ∀ {ts : List T} {vs : List V} {p : Lab} {i j : Nat} {t : T}, Owns G H ω p i ts vs → ts[j]? = some t → ∃ v, vs[j]? = some v ∧ Own G H ω (p ++ [i + j]) t v
  | [], _, _, _, _, _, _, e => by simp at e
  | t0 :: ts, _, _, i, 0, t, ⟨v, r, e, h, k⟩, e2 => by subst e; simp at e2; subst e2; exact ⟨v, rfl, h⟩
  | t0 :: ts, _, _, i, j + 1, t, ⟨v, r, e, h, k⟩, e2 => by
    subst e
    obtain ⟨w, a, b⟩ := Owns.get (j := j) k (by simpa using e2)
    exact ⟨w, by simpa using a, by rwa [show i + (j + 1) = i + 1 + j by omega]⟩
theorem Owns.of : ∀ {ts : List T} {vs : List V} {p : Lab} {i : Nat}, ts.length = vs.length → (∀ (j : Nat) t v, ts[j]? = some t → vs[j]? = some v → Own G H ω (p ++ [i + j]) t v) → Owns G H ω p i ts vs
  | [], [], _, _, _, _ => rfl
  | [], _ :: _, _, _, e, _ => by simp at e
  | _ :: _, [], _, _, e, _ => by simp at e
  | t :: ts, v :: vs, p, i, e, h => ⟨v, vs, rfl, h 0 t v rfl rfl, Owns.of (by simpa using e) fun j t' v' a b => by
      have := h (j + 1) t' v' (by simpa using a) (by simpa using b)
      rwa [show i + (j + 1) = i + 1 + j by omega] at this⟩
end
def phiIn (n i j : Nat) : Lab → Option Lab
  | 1 :: a :: x => if a = n then some (0 :: i :: j :: x) else some (1 :: a :: x)
  | 0 :: a :: b :: x => if a = i ∧ b = j then none else some (0 :: a :: b :: x)
  | l => some l
section
variable {F : Fc} {tmp : Tmp} {s : State} {σ : St} {H : Hp} {v : V} {t : T}
end
section
variable {R : Type} {F : Fc} {tmp : Tmp} {s : State} {m : Res R} {K : Rs R} {N : Rn R} {Rt : Rr R} {ta tb te to ti : TE} {Kf : PySem.W.Frag}
def phiDisp (n : Nat) : Lab → Option Lab
  | 1 :: j :: x => if j < n then some (1 :: j :: x) else some (1 :: n :: (j - n) :: x)
  | l => some l
/-- a display of owned things -/
theorem rd_lstO {t : TA} (h : RA F tmp s m t (fun tms s1 m1 => ∃ ts : List T, tms = ts.map TM.own ∧ ts.length ≤ 1000 ∧ K (.own (.ll ts)) s1 m1)) : RD F tmp s (tLst t) m K := fun σ H Q hh nf eo q =>
  h σ H _ hh nf eo fun tms s1 vs H1 ⟨ts, et, hz, hk⟩ hl h1 => by
    obtain ⟨G, ω, h2⟩ := h1
    obtain ⟨t0, args⟩ := Tms.args vs tms tmp hl h2.tm
    subst et
    have hlen : ts.length = vs.length := by rw [hl]; simp
    have z : ts.length ≤ sizeLine := by rw [sizeLine_eq]; omega
    refine ⟨by rw [← hlen]; exact z, fun p hp => ?_⟩
    have h3 : Hd F G (rl ω (phiDisp tmp.length)) tmp s1 σ H1 := h2.rl _ s1 σ tmp h2.len (fun i u e => by
      obtain ⟨v', e1, e2⟩ := h2.sl i u e
      exact ⟨v', e1, Own.rl e2 fun x => by simp [phiDisp]⟩) (Tms.rl tmp (fun j x hj => by simp [phiDisp, hj]) t0) h2.pn
    refine q _ s1 _ _ hk ⟨G, _, h3.newO hp ⟨p, vs, rfl, upd_same, by simp, z, Owns.of hlen fun j t v a b => ?_⟩⟩
    obtain ⟨w, w1, w2⟩ := args j (.own t) (by rw [List.getElem?_map, a]; rfl)
    rw [b] at w1; cases w1
    rw [Nat.zero_add]
    have hgt : ∀ x, phiDisp tmp.length ([1, tmp.length + j] ++ x) = some (([1, tmp.length] ++ [j]) ++ x) := fun x => by
      have h1 : ¬ tmp.length + j < tmp.length := by omega
      have h2 : tmp.length + j - tmp.length = j := by omega
      simp [phiDisp, h2]
    refine Own.move (Same.refl _) _ _ t v (fun a x e => ?_) w2
    obtain ⟨_, ⟨o, ho⟩, _⟩ := h2.wg a _ e
    have ne := ne_of_none ho hp
    exact ⟨upd_ne ne, by rw [if_neg ne]; exact rl_of e (hgt x)⟩
/-- x.append(owned) -/
theorem rd_appendO {i : Nat} {te : TE} (hs : ∃ ts, s[i]? = some (some (.ll ts))) (h : ∀ x, RD F ((x, .ali i) :: tmp) s te m (fun tm2 s2 m2 => ∃ t ts k, tm2 = .own t ∧ s2[i]? = some (some (.ll ts)) ∧ m2 = (if ts.length < 16777216 then k else .fail) ∧ K (.own (.f .non)) (s2.set i (some (.ll (ts ++ [t])))) k)) :
    RD F tmp s (tBM Kf "list" rAppend (tVar i) (tCons te tNil)) m K := fun σ H Q hh nf eo q => by
  obtain ⟨ts0, hs⟩ := hs
  have hx : ∃ a vs, σ[i]? = some (some (.ref a)) ∧ H a = some (.lst vs) := by
    obtain ⟨G, ω, h1⟩ := hh
    obtain ⟨v, e, a, vs, e2, ha, _⟩ := h1.sl i _ hs
    subst e2
    exact ⟨a, vs, e, ha⟩
  obtain ⟨a, vs, ex, ha⟩ := hx
  refine ⟨.ref a, ex, .inl ⟨rfl, vs, .inl (.inl ha)⟩, h (.ref a) σ H _ (by obtain ⟨G, ω, h1⟩ := hh; exact ⟨G, ω, { h1 with tm := ⟨ex, h1.tm⟩ }⟩) nf eo fun tm2 s2 y H2 ⟨t, ts, k, e2, hi, em, hk⟩ h3 => ?_⟩
  subst e2
  have hlt : ts.length < 16777216 := by
    refine Decidable.byContradiction fun z => ?_
    rw [if_neg z] at em
    exact nf em
  rw [if_pos hlt] at em
  have h4 : Holds F ((y, .own t) :: tmp) s2 σ H2 := Holds.dropMid (ex := [(.ref a, .ali i)]) [(y, .own t)] h3
  obtain ⟨G, ω, h4⟩ := h4
  obtain ⟨v, e1, a', vs', e2, ha', hw, z, r⟩ := h4.sl i _ hi
  subst e2
  rw [ex] at e1; cases e1
  have hil : i < s2.length := (List.getElem?_eq_some_iff.mp hi).1
  refine ⟨a, vs', y, rfl, rfl, ha', by rw [← r.len, sizeLine_eq]; exact hlt, ?_⟩
  have h5 : Hd F G (rl ω (phiIn tmp.length i ts.length)) tmp (s2.set i none) σ H2 := h4.rl _ _ σ tmp (by simp [h4.len]) (fun k u e => by
    by_cases hk : i = k
    · subst hk; rw [List.getElem?_set_self hil] at e; cases e
    · rw [List.getElem?_set_ne hk] at e
      obtain ⟨v', b1, b2⟩ := h4.sl k u e
      have hk' : ¬ k = i := fun z => hk z.symm
      refine ⟨v', b1, Own.rl b2 fun x => ?_⟩
      cases x <;> simp [phiIn, hk']) (Tms.rl tmp (fun j x hj => by
      have : ¬ j = tmp.length := by omega
      simp [phiIn, this]) h4.tm.2) h4.pn
  have hw5 : (rl ω (phiIn tmp.length i ts.length)) a = some [0, i] := rl_of hw rfl
  have r5 : ∀ (j : Nat) t' v', (ts ++ [t])[j]? = some t' → (vs' ++ [y])[j]? = some v' → Own G (upd H2 a (.lst (vs' ++ [y]))) (rl ω (phiIn tmp.length i ts.length)) ([0, i] ++ [0 + j]) t' v' := fun j t' v' a1 a2 => by
    rw [Nat.zero_add]
    have hwr : ∀ {q : Lab} {t v}, pre q [0, i] = false → Own G H2 (rl ω (phiIn tmp.length i ts.length)) q t v → Own G (upd H2 a (.lst (vs' ++ [y]))) (rl ω (phiIn tmp.length i ts.length)) q t v := fun n o => Own.wrO hw5 n o
    refine hwr (by simp [pre]) ?_
    by_cases hj : j < ts.length
    · rw [List.getElem?_append_left hj] at a1
      rw [List.getElem?_append_left (by rw [← r.len]; exact hj)] at a2
      obtain ⟨w, b1, b2⟩ := r.get a1
      rw [a2] at b1; cases b1
      rw [Nat.zero_add] at b2
      have hj' : ¬ j = ts.length := by omega
      exact Own.rl b2 fun x => by simp [phiIn, hj']
    · rw [List.getElem?_append_right (by omega)] at a1
      rw [List.getElem?_append_right (by rw [← r.len]; omega)] at a2
      have hj2 : j = ts.length := by
        have := (List.getElem?_eq_some_iff.mp a1).1
        simp at this
        omega
      subst hj2
      simp at a1
      rw [← r.len] at a2
      simp at a2
      subst a1; subst a2
      exact Own.rl h4.tm.1 fun x => by simp [phiIn]
  have h6 : Hd F G (rl ω (phiIn tmp.length i ts.length)) tmp (s2.set i (some (.ll (ts ++ [t])))) σ (upd H2 a (.lst (vs' ++ [y]))) := h5.wr hw5 _ (by simp) (fun k u e => by
    by_cases hk : i = k
    · subst hk
      rw [List.getElem?_set_self hil] at e
      cases e
      exact ⟨_, ex, a, vs' ++ [y], rfl, upd_same, hw5, by rw [sizeLine_eq]; simp; omega, Owns.of (by simp [r.len]) r5⟩
    · rw [List.getElem?_set_ne hk] at e
      obtain ⟨v', b1, b2⟩ := h5.sl k u (by rw [List.getElem?_set_ne hk]; exact e)
      exact ⟨v', b1, Own.wrO hw5 (by simp [pre]; exact fun z => hk z.symm) b2⟩) (Tms.wrO hw5 tmp (fun j hj => by simp [pre]) h5.tm)
  exact q _ _ .non _ (by rw [em]; exact hk) (holds_push (d := .non) ⟨G, _, h6⟩ fun _ => rfl)
end
end VL

namespace VL
open PySem L2
variable [EC]

/-! what the printed walks use besides -/
def asLst : D → Option (List D) | .lst l => some l | _ => none
def asStr : D → Option (List Nat) | .str x => some x | _ => none
def un2 : D → Option (D × D) | .tup [a, b] => some (a, b) | _ => none
def un3 : D → Option (D × D × D) | .tup [a, b, c] => some (a, b, c) | _ => none
def un4 : D → Option (D × D × D × D) | .tup [a, b, c, d] => some (a, b, c, d) | _ => none
theorem asLst_eq {d : D} {l : List D} (h : asLst d = some l) : d = .lst l := by cases d <;> first | (cases h; rfl) | cases h
theorem asStr_eq {d : D} {l : List Nat} (h : asStr d = some l) : d = .str l := by cases d <;> first | (cases h; rfl) | cases h
theorem un2_eq {d : D} {p : D × D} (h : un2 d = some p) : d = .tup [p.1, p.2] := by
  unfold un2 at h; split at h <;> cases h; rfl
section
variable {R : Type} {F : Fc} {tmp : Tmp} {s : State} {m : Res R} {K : Rs R} {N : Rn R} {Rt : Rr R} {ta tb te to ti td ty : TE} {Kf : PySem.W.Frag}
theorem rs_join {Z : Type} {t : TS} (S : Z → State) (ma : Res Z) (k : Z → Res R) (e : m = rb ma k) (h : RS F tmp s ma t (fun s' m' => ∃ z, m' = .ok z ∧ Sub s' (S z)) (fun _ _ _ => False)) (hn : ∀ z, N (S z) (k z)) : RS F tmp s m t N Rt := fun σ H D hh nf eo nx rt => by
  subst e
  have nf' : ma ≠ .fail := fun z => nf (by rw [z]; rfl)
  refine h σ H D hh nf' (eo.of fun e he => by rw [he]; rfl) (fun s' σ' H' ⟨z, ez, sb⟩ h1 => ?_) fun t s' v σ' H' hk h1 => hk.elim
  refine nx (S z) σ' H' ?_ (h1.sub sb)
  rw [ez]; exact hn z
theorem rs_asgG {te : TE} {g : TG} (is : List Nat) (h : RD F tmp s te m (fun tm s1 m1 => ∃ d, tm = .own (.f d) ∧ RG F tmp s1 m1 is g d N)) : RS F tmp s m (tAsg te g) N Rt := fun σ H De hh nf eo nx rt =>
  h σ H _ hh nf eo fun tm s1 v H1 ⟨d, e, hg⟩ h1 => by
    subst e
    exact hg σ H1 v _ h1 nf eo fun s' σ' H' hk h2 _ _ => nx s' σ' H' hk h2
theorem rg_many {gs : TGs} {n : Nat} {d : D} {is : List Nat} {K : State → Res R → Prop} {ds : List D} (e : d = .tup ds) (hn : ds.length = n)
    (h : ∀ xs, xs.length = n → ∀ σ H Q, Holds F (xs.zip (ds.map fun d => TM.own (.f d)) ++ tmp) s σ H → m ≠ .fail → EOk F m → (∀ s' σ' H', K s' m → Holds F tmp s' σ' H' → (∀ j, j ∉ is → σ'[j]? = σ[j]?) → σ'.length = σ.length → Q σ' H') → gs xs σ H Q) : RG F tmp s m is (gTup Kf n gs) d K := fun σ H v Q hh nf eo q => by
  subst e
  obtain ⟨G, ω, h0⟩ := hh
  obtain ⟨p, vs, e1, g, z, r⟩ := h0.tm.1
  refine ⟨p, vs, e1, .inl (.inl (h0.gH _ _ g)), by rw [← r.length]; exact hn, h vs (by rw [← r.length]; exact hn) σ H Q ⟨G, ω, ?_⟩ nf eo q⟩
  have hp := h0.pop
  have key : ∀ (ds : List D) (vs : List V), Reps G ds vs → Hd F G ω (vs.zip (ds.map fun d => TM.own (.f d)) ++ tmp) s σ H := by
    intro ds
    induction ds with
    | nil => intro vs h; cases (show vs = [] from h); exact hp
    | cons d r ih =>
      intro vs ⟨v, q, e, h, k⟩
      subst e
      exact (ih q k).pushF h
  exact key ds vs r
/-- the targets of an unpacking, one after another -/
def RGs (F : Fc) (tmp : Tmp) (s : State) (m : Res R) (is : List Nat) (gs : TGs) (ds : List D) (K : State → Res R → Prop) : Prop :=
  ∀ xs, xs.length = ds.length → ∀ σ H Q, Holds F (xs.zip (ds.map fun d => TM.own (.f d)) ++ tmp) s σ H → m ≠ .fail → EOk F m → (∀ s' σ' H', K s' m → Holds F tmp s' σ' H' → (∀ j, j ∉ is → σ'[j]? = σ[j]?) → σ'.length = σ.length → Q σ' H') → gs xs σ H Q
theorem rgs_nil {K : State → Res R → Prop} (k : K s m) : RGs F tmp s m [] gNil [] K := fun xs hl σ H Q hh nf eo q => by
  cases xs with
  | nil => exact ⟨rfl, q s σ H k hh (fun _ _ => rfl) rfl⟩
  | cons _ _ => simp at hl
theorem rgs_cons {i : Nat} {is : List Nat} {gs : TGs} {d : D} {ds : List D} {K : State → Res R → Prop} (hi : i < s.length) (na : noAli i tmp = true) (hp : F.pv i = none)
    (h : RGs F tmp (s.set i (some (.f d))) m is gs ds K) : RGs F tmp s m (i :: is) (gCons (gName i) gs) (d :: ds) K := fun xs hl σ H Q hh nf eo q => by
  cases xs with
  | nil => simp at hl
  | cons x r =>
    refine ⟨x, r, rfl, ?_⟩
    have na2 : ∀ (xs : List V) (ds : List D), noAli i (xs.zip (ds.map fun d => TM.own (.f d)) ++ tmp) = true := by
      intro xs
      induction xs with
      | nil => intro ds; exact na
      | cons y q ih =>
        intro ds
        cases ds with
        | nil => exact na
        | cons d' r' => exact ih r'
    have h1 : Holds F ((x, .own (.f d)) :: (r.zip (ds.map fun d => TM.own (.f d)) ++ tmp)) s σ H := hh
    have h2 := h1.store hi (na2 r ds) hp
    refine h r (by simpa using hl) (σ.set i (some x)) H Q h2 nf eo fun s' σ' H' hk h3 hj hl2 => q s' σ' H' hk h3 (fun j hj2 => ?_) (by rw [hl2]; simp)
    have h4 : j ∉ is := fun z => hj2 (List.mem_cons_of_mem _ z)
    have h5 : i ≠ j := fun z => hj2 (by rw [z]; exact List.mem_cons_self)
    rw [hj j h4, List.getElem?_set_ne h5]
theorem rg_un {gs : TGs} {n : Nat} {d : D} {is : List Nat} {K : State → Res R → Prop} {ds : List D} (e : d = .tup ds) (hn : ds.length = n) (h : RGs F tmp s m is gs ds K) : RG F tmp s m is (gTup Kf n gs) d K :=
  rg_many e hn fun xs hx => h xs (hx.trans hn.symm)
theorem rg_n2 {gs : TGs} {d : D} {is : List Nat} {K : State → Res R → Prop} (h : ∃ k, m = ob (un2 d) k ∧ ∀ p : D × D, RGs F tmp s (k p) is gs [p.1, p.2] K) : RG F tmp s m is (gTup Kf 2 gs) d K := fun σ H v Q hh nf eo q => by
  obtain ⟨k, em, h⟩ := h
  obtain ⟨p, ep, em'⟩ := ob_cases (by rw [← em]; exact nf)
  exact rg_un (un2_eq ep) rfl (by have := h p; rw [em, em']; exact this) σ H v Q hh nf eo q
/-- a list of a value that was not known to be one -/
theorem ri_lst {K : Ki R} (h : RD F tmp s ta m (fun tm s1 m1 => ∃ d k, valS s1 tm = some d ∧ m1 = ob (asLst d) k ∧ ∀ ds v, K [(v, tm)] (fun s => valS s tm = valS s1 tm) id ds s1 (k ds))) : RI F tmp s m (iList Kf ta) K := fun σ H Q hh nf eo q => by
  refine ri_list (fun σ H Q' hh' nf' eo' q' => h σ H Q' hh' nf' eo' fun tm s1 v H1 ⟨d, k, ea, em, hk⟩ h1 => q' tm s1 v H1 ?_ h1) σ H Q hh nf eo q
  obtain ⟨ds, ed, em'⟩ := ob_cases (by rw [← em]; exact nf)
  rw [asLst_eq ed] at ea
  exact ⟨ds, ea, fun v => by have := hk ds v; rw [em, em']; exact this⟩
def Fl.on {Z R Q : Type} (o : Fl Z R) (a : Z → Res Q) (b : R → Res Q) : Res Q := match o with | .nx z => a z | .rt r => b r
theorem rs_at {t : TS} (s' : State) (e : s = s') (h : RS F tmp s' m t N Rt) : RS F tmp s m t N Rt := by subst e; exact h
theorem all1 {P : Nat → Prop} {a : Nat} (h : P a) : ∀ i ∈ [a], P i := fun i hi => by
  rw [List.mem_singleton] at hi; subst hi; exact h
theorem all2 {P : Nat → Prop} {a b : Nat} (h : P a) (k : P b) : ∀ i ∈ [a, b], P i := fun i hi => by
  rcases List.mem_cons.mp hi with e | e
  · subst e; exact h
  · rw [List.mem_singleton] at e; subst e; exact k
def lcBodyR (F : Fc) (tmp : Tmp) (S : State) (is : List Nat) (g : TG) (tt : TT) (te : TE) (m : Res (Option D)) (d : D) : Prop :=
  RG F tmp S m is g d (fun s2 m2 => RT F tmp s2 m2 tt (fun b s3 m3 => ∃ ma mb, m3 = (if b = true then ma else mb) ∧
    (b = true → RD F tmp s3 te ma (fun tm s4 m4 => ∃ y, tm = .own (.f y) ∧ m4 = .ok (some y) ∧ Sub s4 S)) ∧ (b = false → mb = .ok none ∧ Sub s3 S)))
theorem rd_sub {R' : Type} {F : Fc} {tmp : Tmp} {s : State} {te : TE} {mr : Res R'} {mu : Res (R' × Unit)} (em : mu = rb mr fun o => .ok (o, ())) {K1 : TM → State → Res R' → Prop} {K2 : TM → State → Res (R' × Unit) → Prop} (h : RD F tmp s te mr K1) (hk : ∀ tm s', K1 tm s' mr → K2 tm s' mu) : RD F tmp s te mu K2 := fun σ H Q hh nf eo q =>
  h σ H Q hh (fun z => nf (by rw [em, z]; rfl)) (eo.of fun e he => by rw [em, he]; rfl) fun tm s' v H' k h1 => q tm s' v H' (hk tm s' k) h1
theorem rd_lcR {wi : TI} {g : TG} {tt : TT} {vs : List Nat} (is : List Nat) (hv : ∀ i ∈ is, i ∈ vs) (hp : ∀ i ∈ vs, F.pv i = none)
    (h : RI F tmp s m wi (fun ex P pb ds s1 m1 => ∃ (S : State) (f : D → Res (Option D)) (k : List D → Res R), m1 = rb (fmR ds f) k ∧ Sub s1 S ∧ P S ∧ (∀ i ∈ vs, S[i]? = some none) ∧ noAlis vs (ex ++ tmp) = true ∧
      (∀ d lv acc, lcBodyR F ((lv, .own (.l acc)) :: (ex ++ tmp)) S is g tt te (f d) d) ∧ ∀ ys, K (.own (.l ys)) (pb S) (k ys))) : RD F tmp s (tLc wi g tt te vs) m K :=
  rd_lc (Z := Unit) is hv hp fun σ H Q hh nf eo q => h σ H Q hh nf eo fun ex P pb ds s1 J H1 ⟨S, f, k, em, sb, hP, hS, na, body, fin⟩ => q ex P pb ds s1 J H1 ⟨fun _ => S, (), fun _ d => rb (f d) fun o => .ok (o, ()), fun p => k p.1, by
      rw [fmR_fmS, em]
      cases fmR ds f <;> rfl, sb, fun _ => hP, fun _ => hS, na, fun z d lv acc => by
      have b := body d lv acc
      intro σ2 H2 v2 Q2 hh2 nf2 eo2 q2
      have nf3 : f d ≠ .fail := fun z => nf2 (by show rb (f d) _ = _; rw [z]; rfl)
      have eo3 : EOk F (f d) := eo2.of fun e he => by show rb (f d) _ = _; rw [he]; rfl
      refine b σ2 H2 v2 Q2 hh2 nf3 eo3 fun s3 σ3 H3 hk hh3 hj hl => q2 s3 σ3 H3 ?_ hh3 hj hl
      intro σ4 H4 Q4 hh4 nf4 eo4 q4
      refine hk σ4 H4 Q4 hh4 nf3 eo3 fun b s5 H5 ⟨ma, mb, eb, hT, hF⟩ hh5 => q4 b s5 H5 ⟨rb ma fun o => .ok (o, ()), rb mb fun o => .ok (o, ()), ?_, fun hb => ?_, fun hb => ?_⟩ hh5
      · show rb (f d) _ = _
        rw [eb]; cases b <;> rfl
      · refine rd_sub rfl (hT hb) fun tm s6 ⟨y, e1, e2, e3⟩ => ⟨y, (), e1, by rw [e2]; rfl, e3⟩
      · obtain ⟨e1, e2⟩ := hF hb
        exact ⟨(), by rw [e1]; rfl, e2⟩, fun p => fin p.1⟩
theorem rd_jn (h : RD F tmp s to m (fun tm1 s1 m1 => ∃ d k, valS s1 tm1 = some d ∧ m1 = ob (asStr d) k ∧ ∀ l0 x, RD F ((x, tm1) :: tmp) s1 te (k l0) (fun tm2 s2 m2 => ∃ a b k, valS s2 tm1 = some a ∧ valS s2 tm2 = some b ∧ m2 = ob (joinD a b) k ∧ ∀ c, K (.own (.f c)) s2 (k c)))) :
    RD F tmp s (tM1 (fun x xs H Q => ∃ a p ys, x = V.str a ∧ xs = [V.ref p] ∧ (SqL Kf H p (List.map V.str ys) ∨ SqT Kf H p (List.map V.str ys)) ∧ (List.map (fun x : Str => x.length) ys).sum + ys.length * a.length ≤ 16777216 ∧ Q (V.str (Txt.join a ys)) H) to te) m K :=
  rd_join fun σ H Q hh nf eo q => h σ H Q hh nf eo fun tm s1 v H1 ⟨d, k, ea, em, hk⟩ h1 => q tm s1 v H1 (by
      obtain ⟨p, ed, em'⟩ := ob_cases (by rw [← em]; exact nf)
      rw [asStr_eq ed] at ea
      exact ⟨⟨p, ea⟩, fun x => by have := hk p x; rw [em, em']; exact this⟩) h1
end
end VL

namespace VL
open PySem L2
variable [EC]
section
variable {R : Type} {F : Fc} {tmp : Tmp} {s : State} {m : Res R} {K : Rs R} {N : Rn R} {Rt : Rr R} {ta tb te to ti td ty : TE} {Kf : PySem.W.Frag}
theorem mapTl {ls : List (List D)} {x : List D} : ls.map T.l ++ [.l x] = (ls ++ [x]).map T.l := by simp
end
theorem hu_64 {k : Nat} {A : Around} (r : Room k A) : A.units + 64 < cLine := by have := r.un; omega
def FU : Nat := 1000000
/-! rules with the written part named -/
section
variable {X : Cx} {Kf : PySem.W.Frag}
theorem ix_anyK (hK : X.K = Kf) : IxR X (rIxA Kf) := hK ▸ ix_any
theorem sl_listK (hK : X.K = Kf) : SlR X (rSlL Kf) := hK ▸ sl_list
theorem op_inK (hK : X.K = Kf) : OpR X (compareOp .In) (rInA Kf) := hK ▸ op_inA
theorem op_notInK (hK : X.K = Kf) : OpR X (compareOp .NotIn) (rNotInA Kf) := hK ▸ op_notInA
theorem call_lenK (hK : X.K = Kf) : CallR X (.builtin "len") (rLen Kf) := by subst hK; exact call_len
theorem call_listK (hK : X.K = Kf) : CallR X (.type "list") (rList Kf) := by subst hK; exact call_list_of
theorem call_isiK' (hK : X.K = Kf) : CallR X (.builtin "isinstance") (rIsi Kf) := by subst hK; exact call_isi
theorem pi_listK {tg l : Expr} {tl : TE} (hK : X.K = Kf) (hl : PE X l tl) : PI X tg l (iList Kf tl) := hK ▸ pi_list hl
theorem pg_tupK {es : List Expr} {k : Nat} {t : TGs} {n : Nat} {pos : Pos} (hK : X.K = Kf) (hc : X.calm = true) (h : PGs X es t)
    (hn : (assignEach es X.env).length = n := by rfl) (hst : (assignEach es X.env).findIdx? (·.1) = none := by rfl) : PG X (.Tuple es k pos) (gTup Kf n t) := hK ▸ pg_tup hc h hn hst
theorem pe_bmK {o e : Expr} {es : List Expr} {to : TE} {t : TA} {name : Str} {apos cpos : Pos} {T id : String} {r : V → List V → Hp → VK → Prop} (hK : X.K = Kf) (pa : PlainAttrs T) (slot : Slot T name id) (hty : typeOf (.builtin id) = pure (.type "method_descriptor")) (hm : MtR X id r) (ho : PE X o to) (ha : PA X (e :: es) t)
    (hbase : attributeBase o name X.env (eval o X.env) = eval o X.env := by rfl)
    (hfew : ((backTo cpos (starEach (e :: es) X.env)).all (fun x => !x.1) && (backToKw cpos (keywordEach [] X.env)).all (fun x => x.1.isSome)
      && decide ((e :: es).length + ([] : List Keyword).length + (if ([] : List Keyword).isEmpty then 0 else 1) < 30)) = true := by rfl)
    (hline : (apos.endLine == cpos.line) = true := by rfl) (hs : starEach (e :: es) X.env = (false, eval e X.env) :: starEach es X.env := by rfl) (hplain : (backTo cpos (starEach es X.env)).any (·.1) = false := by rfl) :
    PE X (.Call (.Attribute o name apos) (e :: es) [] cpos) (tBM Kf T r to t) := hK ▸ pe_bm pa slot hty hm ho ha hbase hfew hline hs hplain
def rJoin (Kf : PySem.W.Frag) : V → List V → Hp → VK → Prop := fun x xs H Q => ∃ a p ys, x = V.str a ∧ xs = [V.ref p] ∧ (SqL Kf H p (List.map V.str ys) ∨ SqT Kf H p (List.map V.str ys)) ∧ (List.map (fun x : Str => x.length) ys).sum + ys.length * a.length ≤ 16777216 ∧ Q (V.str (Txt.join a ys)) H
theorem pe_joinK {o e : Expr} {to te : TE} {apos pos : Pos} (hK : X.K = Kf) (ho : PE X o to) (he : PE X e te) (hs : starEach [e] X.env = [(false, eval e X.env)] := by rfl) (hbase : attributeBase o "join" X.env (eval o X.env) = eval o X.env := by rfl) (hline : (apos.endLine == pos.line) = true := by rfl) :
    PE X (.Call (.Attribute o "join" apos) [e] [] pos) (tM1 (rJoin Kf) to te) := by subst hK; exact pe_join ho he hs hbase hline
end
end VL

namespace VL
open PySem L2
variable [EC]
/-! the script -/
def noL (o : Obj) : Bool := match o.cls with | .type t => !(t == "list") | _ => true
theorem lookup_mem {K : PySem.W.Frag} {a : Addr} {o : Obj} : K.lookup a = some o → (a, o) ∈ K := by
  induction K with
  | nil => intro h; cases h
  | cons p r ih =>
    intro h
    rw [List.lookup_cons] at h
    split at h
    · rename_i e
      cases h
      have : a = p.1 := by simpa using e
      subst this
      exact List.mem_cons_self
    · exact List.mem_cons_of_mem _ (ih h)
theorem noL_rd {K : PySem.W.Frag} {H : Hp} {a : Addr} {xs : List V} (h : (K.all fun p => noL p.2) = true) (hS : SqL K H a xs) : Rd H a (.lst xs) := by
  rcases hS with r | ⟨o, its, n, e, c, _⟩
  · exact r
  · have := List.all_eq_true.mp h _ (lookup_mem e)
    simp only [noL, c] at this
    exact absurd this (by decide)
theorem reps_ints {G : Hp} : ∀ ns : List Int, Reps G (ns.map D.int) (ns.map V.int)
  | [] => rfl
  | i :: r => ⟨.int i, r.map V.int, rfl, rfl, reps_ints r⟩
theorem law_end {K : PySem.W.Frag} {H : Hp} {a : Addr} {ns : List Int} {E : XK} {mir : D → Res D} (h : (K.all fun p => noL p.2) = true) (hl : ns.length ≤ 63) (hS : SqL K H a (ns.map V.int)) (hm : mir (.lst (ns.map .int)) = .ok (.bl true)) :
    spOf (A := D) (R := D) EC.ec (fun a => [.f a]) (fun a => mir a) (fun r => .f r) (fun r => [none]) [.ref a] H (fun v _ => v = .bl true) E := by
  refine ⟨.lst (ns.map .int), H, fun _ => none, Same.refl _, fun x p e => absurd e (by simp), rfl, fun k t e => ?_, ?_, fun r v H' e p => ?_, fun e od H' z => ?_⟩
  · match k, e with
    | 0, e =>
      cases e
      refine ⟨.ref a, rfl, a, ns.map V.int, rfl, noL_rd h hS, ?_, reps_ints ns⟩
      rw [List.length_map, sizeLine_eq]; omega
    | k + 1, e => simp at e
  · show mir _ ≠ _
    rw [hm]; intro z; cases z
  · have e' : mir (.lst (ns.map .int)) = .ok r := e
    rw [hm] at e'
    cases e'
    obtain ⟨G', w', _, _, o, _⟩ := p
    exact o
  · have z' : mir (.lst (ns.map .int)) = .err e := z
    rw [hm] at z'; cases z'
end VL

namespace VL
open PySem L2
/-! mathematics of mirrors -/
def Sat {R : Type} (m : Res R) (P : R → Prop) : Prop := ∃ r, m = .ok r ∧ P r
section
variable {R S Z : Type}
theorem sat_rb {ma : Res S} {k : S → Res R} {P : S → Prop} {Q : R → Prop} (h : Sat ma P) (hk : ∀ r, P r → Sat (k r) Q) : Sat (rb ma k) Q := by
  obtain ⟨r, rfl, p⟩ := h; exact hk r p
theorem sat_ob {o : Option S} {c : S} {k : S → Res R} {Q : R → Prop} (e : o = some c) (h : Sat (k c) Q) : Sat (ob o k) Q := by subst e; exact h
theorem sat_ok {r : R} {P : R → Prop} (h : P r) : Sat (.ok r) P := ⟨r, rfl, h⟩
theorem Sat.mono {m : Res R} {P Q : R → Prop} (h : Sat m P) (i : ∀ r, P r → Q r) : Sat m Q := by obtain ⟨r, e, p⟩ := h; exact ⟨r, e, i r p⟩
theorem of_sat {m : Res R} {r : R} (h : Sat m (fun x => x = r)) : m = .ok r := by obtain ⟨x, e, p⟩ := h; rw [e, p]
theorem sat_rbe {ma : Res S} {r : S} {k : S → Res R} {Q : R → Prop} (h : ma = .ok r) (hk : Sat (k r) Q) : Sat (rb ma k) Q := by subst h; exact hk
theorem sat_if {c : Prop} [Decidable c] {a b : Res R} {Q : R → Prop} (h1 : c → Sat a Q) (h2 : ¬ c → Sat b Q) : Sat (if c then a else b) Q := by
  by_cases h : c
  · rw [if_pos h]; exact h1 h
  · rw [if_neg h]; exact h2 h
theorem sat_forN {f : Z → D → Res Z} {I : Nat → Z → Prop} : ∀ (ds : List D) (z0 : Z) (n : Nat), I n z0 → (∀ i z d, ds[i]? = some d → I (n + i) z → Sat (f z d) (I (n + i + 1))) → Sat (forN ds z0 f) (I (n + ds.length))
  | [], z0, n, h0, _ => ⟨z0, rfl, h0⟩
  | d :: r, z0, n, h0, h => by
    refine sat_rb (h 0 z0 d rfl h0) fun z hz => ?_
    have := sat_forN r z (n + 1) hz fun i z d e hi => by
      have := h (i + 1) z d (by simpa using e) (by rw [show n + (i + 1) = n + 1 + i by omega]; exact hi)
      rwa [show n + (i + 1) = n + 1 + i by omega] at this
    rwa [show n + 1 + r.length = n + (d :: r).length by simp; omega] at this
theorem sat_forL {f : Z → D → Res (Fl Z R)} {I : Nat → Z → Prop} : ∀ (ds : List D) (z0 : Z) (n : Nat), I n z0 → (∀ i z d, ds[i]? = some d → I (n + i) z → Sat (f z d) (fun o => ∃ z', o = .nx z' ∧ I (n + i + 1) z')) → Sat (forL ds z0 f) (fun o => ∃ z', o = .nx z' ∧ I (n + ds.length) z')
  | [], z0, n, h0, _ => ⟨_, rfl, z0, rfl, h0⟩
  | d :: r, z0, n, h0, h => by
    refine sat_rb (h 0 z0 d rfl h0) fun o hz => ?_
    obtain ⟨z, rfl, hz⟩ := hz
    have := sat_forL r z (n + 1) hz fun i z d e hi => by
      have := h (i + 1) z d (by simpa using e) (by rw [show n + (i + 1) = n + 1 + i by omega]; exact hi)
      rwa [show n + (i + 1) = n + 1 + i by omega] at this
    rwa [show n + 1 + r.length = n + (d :: r).length by simp; omega] at this
theorem sat_forL0 {f : Z → D → Res (Fl Z R)} {I : Z → Prop} {ds : List D} {z0 : Z} (h0 : I z0) (h : ∀ z d, d ∈ ds → I z → Sat (f z d) (fun o => ∃ z', o = .nx z' ∧ I z')) : Sat (forL ds z0 f) (fun o => ∃ z', o = .nx z' ∧ I z') :=
  sat_forL (I := fun _ => I) ds z0 0 h0 fun i z d e hi => h z d (List.mem_of_getElem? e) hi
theorem sat_whileN {fc : Z → Res Bool} {f : Z → Res Z} {I : Z → Prop} {E : Z → Prop} {μ : Z → Nat} (h : ∀ z, I z → (fc z = .ok false ∧ E z) ∨ (fc z = .ok true ∧ Sat (f z) (fun z' => I z' ∧ μ z' < μ z))) :
    ∀ (n : Nat) (z0 : Z), I z0 → μ z0 < n → Sat (whileN n z0 fc f) (fun z => I z ∧ E z)
  | 0, _, _, hm => absurd hm (Nat.not_lt_zero _)
  | n + 1, z0, h0, hm => by
    rcases h z0 h0 with ⟨e, q⟩ | ⟨e, q⟩
    · show Sat (rb (fc z0) _) _
      rw [e]; exact ⟨_, rfl, h0, q⟩
    · show Sat (rb (fc z0) _) _
      rw [e]
      show Sat (rb (f z0) _) _
      refine sat_rb q fun z' ho => ?_
      exact sat_whileN h n z' ho.1 (by omega)
theorem fmR_eq {f : D → Res (Option D)} {g : D → Option D} : ∀ (ds : List D), (∀ d ∈ ds, f d = .ok (g d)) → fmR ds f = .ok (ds.filterMap g)
  | [], _ => rfl
  | d :: r, h => by
    show rb (f d) _ = _
    rw [h d List.mem_cons_self]
    show rb (fmR r f) _ = _
    rw [fmR_eq r fun d hd => h d (List.mem_cons_of_mem _ hd)]
    rw [List.filterMap_cons]
    cases g d <;> rfl
theorem fmR_map {f : D → Res (Option D)} {g : D → D} (ds : List D) (h : ∀ d ∈ ds, f d = .ok (some (g d))) : fmR ds f = .ok (ds.map g) := by
  rw [fmR_eq (g := fun d => some (g d)) ds h]
  congr 1
  induction ds with
  | nil => rfl
  | cons d r ih => rw [List.filterMap_cons, List.map_cons, ih fun d hd => h d (List.mem_cons_of_mem _ hd)]
end
/-! values -/
theorem atI_n {α : Type} (xs : List α) (j : Nat) : atI xs ((j : Nat) : Int) = xs[j]? := by
  unfold atI ixN
  rw [if_pos (by omega)]
  by_cases h : (j : Int) < xs.length
  · rw [if_pos h]; simp
  · rw [if_neg h]; simp; omega
theorem ixN_n {n j : Nat} (h : j < n) : ixN n ((j : Nat) : Int) = some j := by
  unfold ixN
  rw [if_pos (by omega), if_pos (by omega)]; simp
theorem ix_l {l : List D} {i : Nat} {d : D} (h : l[i]? = some d) : ixD (.lst l) (.int (i : Nat)) = some d := by
  show atI l _ = _
  rw [atI_n]; exact h
theorem ix_t {l : List D} {i : Nat} {d : D} (h : l[i]? = some d) : ixD (.tup l) (.int (i : Nat)) = some d := by
  show atI l _ = _
  rw [atI_n]; exact h
theorem ix_s {s : List Nat} {i c : Nat} (h : s[i]? = some c) (hl : s.length ≤ 16777216) : ixD (.str s) (.int (i : Nat)) = some (.str [c]) := by
  show (if s.length ≤ 16777216 then (atI s _).map _ else none) = _
  rw [if_pos hl, atI_n, h]; rfl
theorem set_l {l : List D} {i : Nat} {d : D} (h : i < l.length) : setL l (.int (i : Nat)) d = some (l.set i d) := by
  show (ixN l.length _).map _ = _
  rw [ixN_n h]; rfl
theorem rng0 {n : Nat} (h : n ≤ 16777216) : rngD (.int 0) (.int (n : Nat)) = some ((List.range n).map fun k => .int (k : Nat)) := by
  show (if _ then _ else _) = _
  rw [if_pos (by omega)]
  simp
theorem ap_l {l : List D} {d : D} (h : l.length < 16777216) : apL l d = some (l ++ [d]) := if_pos h
theorem cat_l {a b : List D} (h : a.length + b.length ≤ 16777216) : catD (.lst a) (.lst b) = some (a ++ b) := if_pos h
theorem cut_to {α : Type} (l : List α) (n : Nat) (h : n ≤ l.length) : cut l none (some (n : Nat)) = l.take n := by
  unfold cut
  rw [HT.sIx_nat, HT.sIx_none, Nat.min_eq_left h]; simp
theorem cut_from {α : Type} (l : List α) (n : Nat) (h : n ≤ l.length) : cut l (some (n : Nat)) none = l.drop n := by
  unfold cut
  rw [HT.sIx_nat, HT.sIx_none, Nat.min_eq_left h]
  rw [List.take_of_length_le (by rw [List.length_drop]; omega)]
theorem add_s {a b : List Nat} (h : a.length + b.length ≤ 16777216) : addD (.str a) (.str b) = some (.str (a ++ b)) := if_pos h
theorem len_s {a : List Nat} (h : a.length ≤ 16777216) : lenD (.str a) = some (.int a.length) := if_pos h
theorem mod_i {a b : Int} (h : 0 < b) : modD (.int a) (.int b) = some (.int (a % b)) := if_pos h
theorem fdiv_i {a b : Int} (h : 0 < b ∧ b < 1073741824) : fdivD (.int a) (.int b) = some (.int (a / b)) := if_pos h
theorem mul_l {a b : Int} (h : -18446744073709551616 < a ∧ a < 18446744073709551616) : mulD (.int a) (.int b) = some (.int (a * b)) := if_pos (.inl h)
theorem len_l {l : List D} : lenD (.lst l) = some (.int l.length) := rfl
theorem eq_str {a b : List Nat} : eqD (.str a) (.str b) = some (a == b) := by
  unfold eqD
  rw [if_pos ⟨rfl, rfl, Nat.zero_le _⟩]
  simp [D.eqv]
theorem ne_str {a b : List Nat} : neD (.str a) (.str b) = some (!(a == b)) := by
  unfold neD; rw [eq_str]; rfl
theorem ne_nil {l : List D} (p : D.plains l = true) (h : D.deps l ≤ 60) : neD (.lst l) (.lst []) = some (!l.isEmpty) := by
  unfold neD eqD
  rw [if_pos ⟨by simpa [D.plain] using p, rfl, by simp [D.dep, D.deps]⟩]
  cases l <;> rfl
theorem eq_nil {l : List D} (p : D.plains l = true) : eqD (.lst l) (.lst []) = some l.isEmpty := by
  unfold eqD
  rw [if_pos ⟨by simpa [D.plain] using p, rfl, by simp [D.dep, D.deps]⟩]
  cases l <;> rfl
theorem plains_iff : ∀ {l : List D}, D.plains l = true ↔ ∀ d ∈ l, d.plain = true
  | [] => by simp [D.plains]
  | d :: r => by simp [D.plains, plains_iff (l := r)]
theorem deps_le : ∀ {l : List D} {n : Nat}, (∀ d ∈ l, d.dep ≤ n) → D.deps l ≤ n
  | [], _, _ => Nat.zero_le _
  | d :: r, n, h => by
    simp only [D.deps]
    have := h d List.mem_cons_self
    have := deps_le (l := r) fun x hx => h x (List.mem_cons_of_mem _ hx)
    omega
variable [EC]
end VL

/-! zip of a list and a text; its pairs as a dict's argument -/
namespace PySem.ZS
open PySem

abbrev hA (h : Heap) (l : Addr) : Heap := h.push { cls := .type "list_iterator", data := .fields #[.ref l, .int 0 0] }
abbrev hB (h : Heap) (l : Addr) (x : Str) (t : Tok) : Heap := (hA h l).push { cls := .type (strIterType x), data := .fields #[.str x t, .int 0 0] }
abbrev hC (h : Heap) (l : Addr) (x : Str) (t : Tok) : Heap := (hB h l x t).push { cls := .type "tuple", data := .seq #[.ref h.objs.size, .ref (hA h l).objs.size] }
abbrev hD (h : Heap) (l : Addr) (x : Str) (t : Tok) : Heap := (hC h l x t).push { cls := .type "tuple", data := .seq #[.none, .none] }
abbrev hE (h : Heap) (l : Addr) (x : Str) (t : Tok) : Heap := (hD h l x t).push { cls := .type "zip", data := .fields #[.none, .bool false, .bool false, .ref (hB h l x t).objs.size, .ref (hC h l x t).objs.size] }
set_option maxHeartbeats 2000000 in
theorem made (l : Addr) (xs : Array Value) (x : Str) (t : Tok) :
    Meets (Builtin.«zip.__new__» ⟨[.type "zip", .ref l, .str x t], []⟩) (fun _ R s => s.heap.IsList l xs ∧ R (.ok (.ret (.ref (hD s.heap l x t).objs.size))) { s with heap := hE s.heap l x t }) :=
  .of_wp fun prog w A R s h => by
    obtain ⟨hp, g, d, tk, os⟩ := s; obtain ⟨hl, h⟩ := h; have hsub := sub_zip
    have hL : Heap.IsList (Shared.heap ⟨hp, g, d, tk, os⟩) l xs := hl
    wp_walk using wpAny_pyIter_list hL, wpAny_pyIter_strU
    exact ⟨_, rfl, h⟩
section
variable {prog : Program} {w : World} {A : Around} {E : Value → Shared → Prop} {s : Shared}
theorem call {l : Addr} {xs : Array Value} {x : Str} {t : Tok} {Q : Value → Shared → Prop} (hl : s.heap.IsList l xs)
    (h : ∀ h', IsZip h' (s.heap.objs.size + 4) (s.heap.objs.size + 2) (s.heap.objs.size + 3) .none → IsPair h' (s.heap.objs.size + 2) (.ref s.heap.objs.size) (.ref (s.heap.objs.size + 1)) → IsPair h' (s.heap.objs.size + 3) .none .none →
      h'.IsListIter s.heap.objs.size l 0 → h'.IsStrIter (s.heap.objs.size + 1) (strIterType x) x t 0 → h'.objs.size = s.heap.objs.size + 5 → (∀ c o, s.heap.get? c = some o → h'.get? c = some o) → Q (.ref (s.heap.objs.size + 4)) { s with heap := h' }) :
    wpAny (model prog w) A (PySem.call (.type "zip") [.ref l, .str x t]) Q E s := by
  refine callType_new F.called_zip (by decide) (F.typeCall_zip_2 _ _) (F.newCall_zip_2 _ _) (fun obj => F.args_object_init_3 obj _ _) F.entry_zip_new (made l xs x t) ⟨hl, ?_⟩
  have a1 : (hA s.heap l).objs.size = s.heap.objs.size + 1 := Heap.size_push ..
  have a2 : (hB s.heap l x t).objs.size = s.heap.objs.size + 2 := by rw [Heap.size_push, a1]
  have a3 : (hC s.heap l x t).objs.size = s.heap.objs.size + 3 := by rw [Heap.size_push, a2]
  have a4 : (hD s.heap l x t).objs.size = s.heap.objs.size + 4 := by rw [Heap.size_push, a3]
  have a5 : (hE s.heap l x t).objs.size = s.heap.objs.size + 5 := by rw [Heap.size_push, a4]
  have b5 : (hE s.heap l x t).get? (hD s.heap l x t).objs.size = some _ := Heap.get?_push_size _ rfl
  have b4 : (hE s.heap l x t).get? (hC s.heap l x t).objs.size = some _ := Heap.get?_push_of_some _ (Heap.get?_push_size _ rfl)
  have b3 : (hE s.heap l x t).get? (hB s.heap l x t).objs.size = some _ := Heap.get?_push_of_some _ (Heap.get?_push_of_some _ (Heap.get?_push_size _ rfl))
  have b2 : (hE s.heap l x t).get? (hA s.heap l).objs.size = some _ := Heap.get?_push_of_some _ (Heap.get?_push_of_some _ (Heap.get?_push_of_some _ (Heap.get?_push_size _ rfl)))
  have b1 : (hE s.heap l x t).get? s.heap.objs.size = some _ := Heap.get?_push_of_some _ (Heap.get?_push_of_some _ (Heap.get?_push_of_some _ (Heap.get?_push_of_some _ (Heap.get?_push_size _ rfl))))
  show _ ∧ _
  rw [a2, a3, a4] at b5; rw [a1, a2] at b3; rw [a3] at b4; rw [a1] at b2; rw [a4]
  exact ⟨⟨_, b5, rfl⟩, h _ b5 b3 b4 ⟨_, b1, rfl, rfl⟩ ⟨_, b2, rfl, rfl⟩ a5 fun c o y => Heap.get?_push_of_some _ (Heap.get?_push_of_some _ (Heap.get?_push_of_some _ (Heap.get?_push_of_some _ (Heap.get?_push_of_some _ y))))⟩
end
end PySem.ZS

namespace PySem.ZS
open PySem PySem.W
section
variable {prog : Program} {w : World} {A : Around} {E : Value → Shared → Prop} {s : Shared} {z TI TO T i1 i2 l : Addr} {k : Nat} {xs : Array Value} {x a b : Value} {y : Str} {t : Tok} {c : Nat} {f : Bool} {oT : Obj}
end
end PySem.ZS

namespace PySem.ZS
open PySem PySem.W
section
variable {prog : Program} {w : World} {A : Around} {E : Value → Shared → Prop} {s : Shared} {z TI TO T i1 i2 l : Addr} {k : Nat} {xs : Array Value} {x a b : Value} {y : Str} {t : Tok} {c : Nat} {f : Bool} {oT : Obj}
end
section
variable {prog : Program} {w : World}
end
end PySem.ZS

namespace L2
open PySem PySem.Spec PyProof.Rows
section
variable {prog : Program} {w : World} {A : Around} {E : Value → Shared → Prop} {s : Shared}
end
end L2

namespace L2
open PySem PySem.Spec PyProof.Rows
section
variable {X : Cx} {pins : List (Addr × Obj)} {σ : St}
end
end L2

namespace VL
open PySem L2
variable [EC]
section
variable {R : Type} {F : Fc} {tmp : Tmp} {s : State} {m : Res R} {K : Rs R} {N : Rn R} {Rt : Rr R} {ta tb : TE} {Kf : PySem.W.Frag}
end
end VL

namespace VL
open PySem L2
variable [EC]
section
variable {R : Type} {F : Fc} {tmp : Tmp} {s : State} {m : Res R} {K : Rs R} {N : Rn R} {Rt : Rr R} {ta tb te to ti : TE} {Kf : PySem.W.Frag}
/-- x[n], a told thing of an owned list -/
theorem rd_ixO {i n : Nat} {ts : List T} {d : D} (hs : s[i]? = some (some (.ll ts))) (hn : ts[n]? = some (.f d)) (k : K (.own (.f d)) s m) : RD F tmp s (tOp (rIxA Kf) (tVar i) (tC (.int (n : Nat)))) m K := fun σ H Q hh nf eo q => by
  obtain ⟨G, ω, h⟩ := hh
  obtain ⟨v, e, a, vs, e2, ha, hw, z, r⟩ := h.sl i _ hs
  subst e2
  obtain ⟨w, w1, w2⟩ := r.get hn
  exact ⟨_, e, .inl ⟨a, vs, (n : Nat), w, rfl, rfl, .inl (.inl ha), by rw [atI_n]; exact w1, q _ _ w H k ⟨G, ω, h.pushF w2⟩⟩⟩
/-- x[n] = e -/
theorem rs_setO {i n : Nat} (h : RD F tmp s te m (fun tm1 s1 m1 => ∃ t ts, tm1 = .own t ∧ s1[i]? = some (some (.ll ts)) ∧ n < ts.length ∧ N (s1.set i (some (.ll (ts.set n t)))) m1)) : RS F tmp s m (tAsg te (gSub (tVar i) (tC (.int (n : Nat))) rSetL)) N Rt := fun σ H De hh nf eo nx rt =>
  h σ H _ hh nf eo fun tm1 s1 y H2 ⟨t, ts, e2, hi, hlt, hk⟩ h4 => by
    subst e2
    obtain ⟨G, ω, h4⟩ := h4
    obtain ⟨v, e1, a, vs', e2, ha', hw, z, r⟩ := h4.sl i _ hi
    subst e2
    have hil : i < s1.length := (List.getElem?_eq_some_iff.mp hi).1
    refine ⟨.ref a, e1, a, vs', (n : Nat), n, rfl, rfl, ha', ixN_n (by rw [← r.len]; exact hlt), ?_⟩
    have h5 : Hd F G (rl ω (phiIn tmp.length i n)) tmp (s1.set i none) σ H2 := h4.rl _ _ σ tmp (by simp [h4.len]) (fun k u e => by
      by_cases hk : i = k
      · subst hk; rw [List.getElem?_set_self hil] at e; cases e
      · rw [List.getElem?_set_ne hk] at e
        obtain ⟨v', b1, b2⟩ := h4.sl k u e
        have hk' : ¬ k = i := fun z => hk z.symm
        refine ⟨v', b1, Own.rl b2 fun x => ?_⟩
        cases x <;> simp [phiIn, hk']) (Tms.rl tmp (fun j x hj => by
        have : ¬ j = tmp.length := by omega
        simp [phiIn, this]) h4.tm.2) h4.pn
    have hw5 : (rl ω (phiIn tmp.length i n)) a = some [0, i] := rl_of hw rfl
    have hwr : ∀ {q : Lab} {t v o}, pre q [0, i] = false → Own G H2 (rl ω (phiIn tmp.length i n)) q t v → Own G (upd H2 a o) (rl ω (phiIn tmp.length i n)) q t v := fun n o => Own.wrO hw5 n o
    refine nx _ σ _ hk ⟨G, _, h5.wr hw5 _ (by simp) (fun k u e => ?_) (Tms.wrO hw5 tmp (fun j hj => by simp [pre]) h5.tm)⟩
    by_cases hk : i = k
    · subst hk
      rw [List.getElem?_set_self hil] at e
      cases e
      refine ⟨_, e1, a, vs'.set n y, rfl, upd_same, hw5, by simpa using z, Owns.of (by simp [r.len]) fun j t' v' a1 a2 => ?_⟩
      rw [Nat.zero_add]
      refine hwr (by simp [pre]) ?_
      rw [List.getElem?_set] at a1 a2
      by_cases hj : n = j
      · subst hj
        rw [if_pos rfl, if_pos hlt] at a1
        rw [if_pos rfl, if_pos (by rw [← r.len]; exact hlt)] at a2
        cases a1; cases a2
        exact Own.rl h4.tm.1 fun x => by simp [phiIn]
      · rw [if_neg hj] at a1 a2
        obtain ⟨w, b1, b2⟩ := r.get a1
        rw [a2] at b1; cases b1
        rw [Nat.zero_add] at b2
        have hj' : ¬ j = n := fun z => hj z.symm
        exact Own.rl b2 fun x => by simp [phiIn, hj']
    · rw [List.getElem?_set_ne hk] at e
      obtain ⟨v', b1, b2⟩ := h5.sl k u (by rw [List.getElem?_set_ne hk]; exact e)
      exact ⟨v', b1, Own.wrO hw5 (by simp [pre]; exact fun z => hk z.symm) b2⟩
/-! a deck: [pools, number]; one of its pools by a name of its own -/
def deckT (a : List (List D) × D) : T := .ll [.ll (a.1.map T.l), .f a.2]
def openT (ps : List (List D)) (j : Nat) (v : V) (c : D) : T := .ll [.ll ((ps.map T.l).set j (.hole v)), .f c]
def poolJ (n : Nat) : D → Option Nat | .int c => if 0 < n ∧ n < 1073741824 then some (c % (n : Int)).toNat else none | _ => none
def phiPl (i j x : Nat) : Lab → Option Lab
  | 0 :: a :: b :: c :: y => if a = i ∧ b = 0 ∧ c = j then some (0 :: x :: y) else if a = x then none else some (0 :: a :: b :: c :: y)
  | 0 :: a :: y => if a = x then none else some (0 :: a :: y)
  | l => some l
def phiUp (i j x : Nat) : Lab → Option Lab
  | 0 :: a :: y => if a = x then some (0 :: i :: 0 :: j :: y) else some (0 :: a :: y)
  | l => some l
def tPool (Kf : PySem.W.Frag) (i : Nat) : TE := tOp (rIxA Kf) (tOp (rIxA Kf) (tVar i) (tC (.int 0))) (tOp (rI (fun _ j => 0 < j) fun i j => .int (i % j)) (tOp (rIxA Kf) (tVar i) (tC (.int 1))) (tCB (rLen Kf) (tCons (tOp (rIxA Kf) (tVar i) (tC (.int 0))) tNil)))
theorem rs_pool {i x : Nat} {dk : List (List D) × D} {u : TS} (hs : s[i]? = some (some (deckT dk))) (hx : x < s.length) (hix : i ≠ x) (na : noAli x tmp = true) (hp : F.pv x = none)
    (h : ∃ k, m = ob (poolJ dk.1.length dk.2) k ∧ ∀ j v, dk.1[j]? = some (dk.1.getD j []) → RS F ((v, .ali x) :: tmp) ((s.set i (some (openT dk.1 j v dk.2))).set x (some (.l (dk.1.getD j [])))) (k j) u N Rt) :
    RS F tmp s m (tSeq (tAsg (tPool Kf i) (gName x)) u) N Rt := fun σ H De hh nf eo nx rt => by
  obtain ⟨ps, c⟩ := dk
  obtain ⟨k, em, hk⟩ := h
  obtain ⟨j, ej, em'⟩ := ob_cases (by rw [← em]; exact nf)
  obtain ⟨G, ω, h⟩ := hh
  obtain ⟨v0, e1, a, vs, e2, ha, hw, z, r⟩ := h.sl i _ hs
  subst e2
  obtain ⟨v1, f1, b, ws, f2, hb, hwb, zb, rb⟩ := r.get (j := 0) rfl
  subst f2
  obtain ⟨w2, g1, g2⟩ := r.get (j := 1) rfl
  cases c <;> try (cases ej; done)
  rename_i cn
  cases (show w2 = .int cn from g2)
  simp only [poolJ] at ej
  split at ej
  · rename_i hn
    cases ej
    have hlen : ws.length = ps.length := by rw [← rb.len]; simp
    have hjl : (cn % (ps.length : Int)).toNat < ps.length := by
      have := Int.emod_nonneg cn (show (ps.length : Int) ≠ 0 by omega)
      have := Int.emod_lt_of_pos cn (show (0 : Int) < ps.length by omega)
      omega
    have hj : ps[(cn % (ps.length : Int)).toNat]? = some (ps.getD (cn % (ps.length : Int)).toNat []) := by rw [List.getD_eq_getElem?_getD, List.getElem?_eq_getElem hjl]; rfl
    generalize hjj : (cn % (ps.length : Int)).toNat = j at *
    obtain ⟨v, c1, c2⟩ := rb.get (j := j) (t := .l (ps.getD j [])) (by rw [List.getElem?_map, hj]; rfl)
    have eb : ∀ (Q : VK), Q (.ref b) H → tOp (rIxA Kf) (tVar i) (tC (.int 0)) σ H Q := fun Q q => ⟨_, e1, .inl ⟨a, vs, 0, .ref b, rfl, rfl, .inl (.inl ha), by rw [show (0 : Int) = ((0 : Nat) : Int) from rfl, atI_n]; exact f1, q⟩⟩
    refine eb _ ?_
    refine ⟨_, e1, .inl ⟨a, vs, 1, .int cn, rfl, rfl, .inl (.inl ha), by rw [show (1 : Int) = ((1 : Nat) : Int) from rfl, atI_n]; exact g1, ?_⟩⟩
    refine eb _ ?_
    refine ⟨.ref b, ws.length, rfl, .inl ⟨ws, .inl (.inl hb), rfl⟩, cn, ws.length, rfl, rfl, by omega, ?_⟩
    refine .inl ⟨b, ws, cn % (ws.length : Int), v, rfl, rfl, .inl (.inl hb), ?_, ?_⟩
    · rw [hlen, show cn % (ps.length : Int) = ((j : Nat) : Int) by rw [← hjj, Int.toNat_of_nonneg (Int.emod_nonneg cn (by omega))], atI_n]; exact c1
    have hil : i < s.length := (List.getElem?_eq_some_iff.mp hs).1
    refine hk j v hj (σ.set x (some v)) H De ⟨G, _, h.rl (phiPl i j x) _ _ ((v, .ali x) :: tmp) (by simp [h.len]) (fun k u e => ?_) ⟨by show (σ.set x (some v))[x]? = _; rw [List.getElem?_set_self (by rw [h.len]; exact hx)], ?_⟩ fun k u e => ?_⟩ (by rw [← em', ← em]; exact nf) (by rw [← em', ← em]; exact eo) (fun s' σ' H' hn h1 => nx s' σ' H' (by rw [em, em']; exact hn) h1.pop) (fun t s' v σ' H' hn h1 => rt t s' v σ' H' (by rw [em, em']; exact hn) h1)
    · by_cases hkx : x = k
      · subst hkx
        rw [List.getElem?_set_self (by simpa using hx)] at e
        cases e
        refine ⟨v, by rw [List.getElem?_set_self (by rw [h.len]; exact hx)], Own.rl c2 fun y => ?_⟩
        simp [phiPl]
      · rw [List.getElem?_set_ne hkx] at e
        by_cases hki : i = k
        · subst hki
          rw [List.getElem?_set_self hil] at e
          cases e
          have hxi : ¬ i = x := hix
          refine ⟨_, by rw [List.getElem?_set_ne hkx]; exact e1, a, vs, rfl, ha, rl_of hw (by simp [phiPl, hxi]), z, Owns.of r.len fun q t' v' a1 a2 => ?_⟩
          rw [Nat.zero_add]
          match q, a1 with
          | 0, a1 =>
            cases a1
            rw [f1] at a2; cases a2
            refine ⟨b, ws, rfl, hb, rl_of hwb (by simp [phiPl, hxi]), by simpa using zb, Owns.of (by simp [← hlen]) fun q t' v' a1 a2 => ?_⟩
            rw [Nat.zero_add]
            rw [List.getElem?_set] at a1
            by_cases hq : j = q
            · subst hq
              rw [if_pos rfl, if_pos (by simpa using hjl)] at a1
              cases a1
              rw [c1] at a2; cases a2
              exact rfl
            · rw [if_neg hq] at a1
              obtain ⟨w, d1, d2⟩ := rb.get a1
              rw [a2] at d1; cases d1
              have hq' : ¬ q = j := fun z => hq z.symm
              exact Own.rl d2 fun y => by simp [phiPl, hq', hxi]
          | 1, a1 =>
            cases a1
            rw [g1] at a2; cases a2
            exact rfl
          | n + 2, a1 => simp at a1
        · rw [List.getElem?_set_ne hki] at e
          obtain ⟨v', b1, b2⟩ := h.sl k u e
          have hk' : ¬ k = i := fun z => hki z.symm
          have hk2 : ¬ k = x := fun z => hkx z.symm
          refine ⟨v', by rw [List.getElem?_set_ne hkx]; exact b1, Own.rl b2 fun y => ?_⟩
          match y with
          | [] => simp [phiPl, hk2]
          | [_] => simp [phiPl, hk2]
          | _ :: _ :: _ => simp [phiPl, hk', hk2]
    · refine Tms.slots tmp (fun j hj => ?_) (Tms.rl tmp (fun j x hj => ?_) h.tm)
      · have : x ≠ j := fun e => by subst e; rw [na] at hj; cases hj
        rw [List.getElem?_set_ne this]
      · simp [phiPl]
    · have : x ≠ k := fun z => by subst z; rw [hp] at e; cases e
      rw [List.getElem?_set_ne this]
      exact h.pn k u e
  · cases ej
/-- the pool goes back -/
theorem rs_unpool {i x j : Nat} {ps : List (List D)} {c : D} {v : V} {ds : List D} {t : TS} (hs : s[i]? = some (some (openT ps j v c))) (hx : s[x]? = some (some (.l ds))) (hj : ps[j]? = some (ps.getD j []))
    (h : RS F ((v, .ali x) :: tmp) ((s.set i (some (deckT (ps.set j ds, c)))).set x none) m t N Rt) : RS F ((v, .ali x) :: tmp) s m t N Rt := fun σ H De hh => by
  refine h σ H De ?_
  obtain ⟨G, ω, h⟩ := hh
  obtain ⟨v0, e1, a, vs, e2, ha, hw, z, r⟩ := h.sl i _ hs
  subst e2
  obtain ⟨v1, f1, b, ws, f2, hb, hwb, zb, rb⟩ := r.get (j := 0) rfl
  subst f2
  obtain ⟨w2, g1, g2⟩ := r.get (j := 1) rfl
  obtain ⟨v', x1, x2⟩ := h.sl x _ hx
  have ht : σ[x]? = some (some v) := h.tm.1
  rw [x1] at ht; cases ht
  have hil : i < s.length := (List.getElem?_eq_some_iff.mp hs).1
  have hxl : x < s.length := (List.getElem?_eq_some_iff.mp hx).1
  have hix : ¬ i = x := fun e => by subst e; rw [hs] at hx; cases hx
  have hjl : j < ps.length := (List.getElem?_eq_some_iff.mp hj).1
  refine ⟨G, _, h.rl (phiUp i j x) _ σ _ (by simp [h.len]) (fun k u e => ?_) (Tms.rl _ (fun k y hk => by simp [phiUp]) h.tm) h.pn⟩
  by_cases hkx : x = k
  · subst hkx
    rw [List.getElem?_set_self (by simpa using hxl)] at e
    cases e
  · rw [List.getElem?_set_ne hkx] at e
    by_cases hki : i = k
    · subst hki
      rw [List.getElem?_set_self hil] at e
      cases e
      refine ⟨_, e1, a, vs, rfl, ha, rl_of hw (by simp [phiUp, hix]), z, Owns.of r.len fun q t' v' a1 a2 => ?_⟩
      rw [Nat.zero_add]
      match q, a1 with
      | 0, a1 =>
        cases a1
        rw [f1] at a2; cases a2
        refine ⟨b, ws, rfl, hb, rl_of hwb (by simp [phiUp, hix]), by simpa using zb, Owns.of (by simp [← rb.len]) fun q t' v' a1 a2 => ?_⟩
        rw [Nat.zero_add]
        rw [List.map_set, List.getElem?_set] at a1
        by_cases hq : j = q
        · subst hq
          rw [if_pos rfl, if_pos (by simpa using hjl)] at a1
          cases a1
          obtain ⟨w, d1, d2⟩ := rb.get (j := j) (t := .hole v) (by rw [List.getElem?_set_self (by simpa using hjl)])
          rw [a2] at d1; cases d1
          cases (show v' = v from d2)
          exact Own.rl x2 fun y => by simp [phiUp]
        · rw [if_neg hq] at a1
          obtain ⟨w, d1, d2⟩ := rb.get (j := q) (t := t') (by rw [List.getElem?_set_ne hq]; exact a1)
          rw [a2] at d1; cases d1
          exact Own.rl d2 fun y => by simp [phiUp, hix]
      | 1, a1 =>
        cases a1
        rw [g1] at a2; cases a2
        exact g2
      | n + 2, a1 => simp at a1
    · rw [List.getElem?_set_ne hki] at e
      obtain ⟨v', b1, b2⟩ := h.sl k u e
      have hk2 : ¬ k = x := fun z => hkx z.symm
      exact ⟨v', b1, Own.rl b2 fun y => by simp [phiUp, hk2]⟩
end
end VL

namespace VL
open PySem L2
variable [EC]
/-! text times number -/
def rMulS : R2 := fun x y H Q => ∃ (a : List Nat) (n : Int), x = .str (mkS a) ∧ y = .int n ∧ 0 ≤ n ∧ n ≤ 1000000 ∧ a.length * n.toNat ≤ 16777216 ∧ Q (.str (mkS (List.replicate n.toNat a).flatten)) H
theorem foldl_arr : ∀ (n : Nat) (a : Array Nat) (acc : List Nat), List.foldl (fun x y : Array Nat => x ++ y) acc.toArray (List.replicate n a) = (acc ++ (List.replicate n a.toList).flatten).toArray
  | 0, a, acc => by simp
  | n + 1, a, acc => by
    rw [List.replicate_succ, List.foldl_cons]
    have : acc.toArray ++ a = (acc ++ a.toList).toArray := by apply Array.ext'; simp
    rw [this, foldl_arr n a]
    simp [List.replicate_succ]
theorem mul_mkS (a : List Nat) (n : Int) (h : 0 ≤ n) : Txt.mul (mkS a) n = mkS (List.replicate n.toNat a).flatten := by
  unfold Txt.mul
  by_cases h1 : n < 1
  · rw [if_pos h1]
    have : n = 0 := by omega
    subst this; rfl
  · rw [if_neg h1]
    split
    · rename_i h2
      simp only [Bool.or_eq_true, beq_iff_eq] at h2
      rcases h2 with h2 | h2
      · subst h2; simp [mkS]
      · rw [mkS_len] at h2
        have : a = [] := List.length_eq_zero_iff.mp h2
        subst this
        simp [mkS]
    · have := foldl_arr n.toNat (mkS a).cps []
      simp only [List.nil_append] at this
      show Str.mk _ = _
      rw [show ((#[] : Array Nat)) = ([] : List Nat).toArray from rfl, this, mkS_cps]; rfl
theorem op_mulS {X : Cx} : OpR X (binaryOp .Mult) rMulS := by
  intro pins s σ H x y v u Q I rx ry h
  obtain ⟨a, n, rfl, rfl, h0, h1, hz, q⟩ := h
  obtain ⟨t, rfl⟩ := rx
  obtain ⟨t', rfl⟩ := ry
  refine SB.mul ⟨?_, fun h2 h3 => ?_, fun h2 h3 => ?_⟩ fun t' k => ⟨.str (mkS (List.replicate n.toNat a).flatten), H, I.tok _, ⟨t', by rw [mul_mkS a n h0]⟩, q⟩
  · simp; omega
  · rw [mkS_len]
    have : (a.length : Int) * n ≤ 16777216 := by
      have e : (a.length : Int) * n = ((a.length * n.toNat : Nat) : Int) := by rw [Int.natCast_mul, Int.toNat_of_nonneg h0]
      rw [e]; omega
    intro hgt
    have h5 : (2 ^ 63 - 1) / n * n ≤ 2 ^ 63 - 1 := Int.ediv_mul_le _ (by omega)
    have h6 : ((2 ^ 63 - 1) / n + 1) * n ≤ (a.length : Int) * n := Int.mul_le_mul_of_nonneg_right (by omega) (by omega)
    have h7 : (2 ^ 63 - 1 : Int) < ((2 ^ 63 - 1) / n + 1) * n := Int.lt_ediv_add_one_mul_self _ (by omega)
    omega
  · rw [mkS_len]
    have : a.length * n.toNat ≤ sizeLine := by rw [sizeLine_eq]; exact hz
    simpa [Builtin.Str.tooLong] using this
def mulS : D → D → Option D
  | .str a, .int n => if 0 ≤ n ∧ n ≤ 1000000 ∧ a.length * n.toNat ≤ 16777216 then some (.str (List.replicate n.toNat a).flatten) else none
  | _, _ => none
theorem o_mulS : Op2C rMulS mulS := fun G H x y a b c Q sm ra rb e q => by
  cases a <;> cases b <;> try (cases e; done)
  simp only [mulS] at e
  split at e
  · cases e
    rename_i h
    exact ⟨_, _, ra, rb, h.1, h.2.1, h.2.2, q _ rfl⟩
  · cases e
/-! insert -/
def insL (ds : List D) : D → D → Option (List D) | .int i, d => if ds.length < 16777216 ∧ 0 ≤ i ∧ i < 9223372036854775808 then some (ds.take i.toNat ++ [d] ++ ds.drop i.toNat) else none | _, _ => none
abbrev rInsert : V → List V → Hp → VK → Prop := fun x vs H Q => ∃ (l : Addr) (xs : List V) (i : Int) (y : V), x = .ref l ∧ vs = [.int i, y] ∧ H l = some (.lst xs) ∧ xs.length < sizeLine ∧ 0 ≤ i ∧ i < 2 ^ 63 ∧
    Q .non (upd H l (.lst (xs.take i.toNat ++ [y] ++ xs.drop i.toNat)))
section
variable {R : Type} {F : Fc} {tmp : Tmp} {s : State} {m : Res R} {K : Rs R} {N : Rn R} {Rt : Rr R} {ta tb te to ti : TE} {Kf : PySem.W.Frag}
theorem rd_insert {i : Nat} (hs : ∃ ds, s[i]? = some (some (.l ds)))
    (h : ∀ x, RD F ((x, .ali i) :: tmp) s ta m (fun tm1 s1 m1 => ∃ di, tm1 = .own (.f di) ∧ ∀ y, RD F ((y, .own (.f di)) :: (x, .ali i) :: tmp) s1 tb m1 (fun tm2 s2 m2 => ∃ d ds k, tm2 = .own (.f d) ∧ s2[i]? = some (some (.l ds)) ∧ m2 = ob (insL ds di d) k ∧ ∀ ds', K (.own (.f .non)) (s2.set i (some (.l ds'))) (k ds')))) :
    RD F tmp s (tBM Kf "list" rInsert (tVar i) (tCons ta (tCons tb tNil))) m K := fun σ H Q hh nf eo q => by
  obtain ⟨ds0, hs⟩ := hs
  obtain ⟨a, vs, sa, ha⟩ : ∃ a vs, σ[i]? = some (some (.ref a)) ∧ H a = some (.lst vs) := by
    obtain ⟨a, vs, sa, ha, _⟩ := hh.wrSlot hs
    exact ⟨a, vs, sa, ha⟩
  refine ⟨.ref a, sa, .inl ⟨rfl, vs, .inl (.inl ha)⟩, h (.ref a) σ H _ (by obtain ⟨G, ω, h1⟩ := hh; exact ⟨G, ω, { h1 with tm := ⟨sa, h1.tm⟩ }⟩) nf eo fun tm1 s1 y H1 ⟨di, e1, h1⟩ h2 => ?_⟩
  subst e1
  refine h1 y σ H1 _ h2 nf eo fun tm2 s2 z H2 ⟨d, ds, k, e2, hi, em, hk⟩ h3 => ?_
  subst e2
  obtain ⟨c, ec, em'⟩ := ob_cases (by rw [← em]; exact nf)
  have ey : ∃ j, di = .int j ∧ y = .int j := by
    obtain ⟨G, ω, h6⟩ := h3
    have r : Rep G di y := h6.tm.2.1
    cases di <;> try (cases ec; done)
    exact ⟨_, rfl, r⟩
  obtain ⟨j, rfl, rfl⟩ := ey
  have h4 : Holds F ((z, .own (.f d)) :: tmp) s2 σ H2 := Holds.dropMid (ex := [(.int j, .own (.f (.int j))), (.ref a, .ali i)]) [(z, .own (.f d))] h3
  obtain ⟨a', vs', sa', ha', hl, hz, _, up⟩ := h4.wrSlot hi
  rw [sa] at sa'; cases sa'
  simp only [insL] at ec
  split at ec
  · cases ec
    rename_i hh1
    refine ⟨a, vs', j, z, rfl, rfl, ha', by rw [hl, sizeLine_eq]; exact hh1.1, hh1.2.1, hh1.2.2, ?_⟩
    have h8 := up (ds.take j.toNat ++ [d] ++ ds.drop j.toNat) (vs'.take j.toNat ++ [z] ++ vs'.drop j.toNat) (by rw [sizeLine_eq]; simp; omega) fun G _ _ r ht => ((r.take j.toNat).append (show Reps G [d] [z] from ⟨z, [], rfl, ht _ _ rfl d rfl, rfl⟩)).append (r.drop j.toNat)
    exact q _ _ .non _ (by rw [em, em']; exact hk _) (holds_push (d := .non) h8.pop fun _ => rfl)
  · cases ec
/-! targets of a list -/
def unL (n : Nat) : D → Option (List D) | .lst l => if l.length = n then some l else none | _ => none
theorem rg_lN {gs : TGs} {n : Nat} {d : D} {is : List Nat} {K : State → Res R → Prop} (es : List D → List D) (he : ∀ l, es l = (List.range n).map fun i => l.getD i .non) (h : ∃ k, m = ob (unL n d) k ∧ ∀ l, RGs F tmp s (k l) is gs (es l) K) : RG F tmp s m is (gLst Kf n gs) d K := fun σ H v Q hh nf eo q => by
  obtain ⟨k, em, hk⟩ := h
  obtain ⟨l, el, em'⟩ := ob_cases (by rw [← em]; exact nf)
  cases d <;> try (cases el; done)
  simp only [unL] at el
  split at el
  · cases el
    rename_i hl
    obtain ⟨G, ω, h⟩ := hh
    obtain ⟨a, xs, e, rd, z, r⟩ : Rep G (.lst l) v := h.tm.1
    subst e
    have ees : es l = l := by
      rw [he, ← hl]
      apply List.ext_getElem
      · simp
      · intro i h1 h2
        simp [List.getD_eq_getElem?_getD, h2]
    have hkl := hk l
    rw [ees] at hkl
    have hp := h.pop
    have key : ∀ (ds : List D) (vs : List V), Reps G ds vs → Hd F G ω (vs.zip (ds.map fun d => TM.own (.f d)) ++ tmp) s σ H := by
      intro ds
      induction ds with
      | nil => intro vs h; cases (show vs = [] from h); exact hp
      | cons d r ih =>
        intro vs ⟨v, q, e, h, k⟩
        subst e
        exact (ih q k).pushF h
    exact ⟨a, xs, rfl, .inl (Same.rd h.gH rd), by rw [← r.length]; exact hl, hkl xs r.length.symm σ H Q ⟨G, ω, key l xs r⟩ (by rw [← em', ← em]; exact nf) (by rw [← em', ← em]; exact eo) (fun s' σ' H' hk' => q s' σ' H' (by rw [em, em']; exact hk'))⟩
  · cases el
theorem pg_lstK {X : Cx} {es : List Expr} {k : Nat} {t : TGs} {n : Nat} {pos : Pos} (hK : X.K = Kf) (hc : X.calm = true) (h : PGs X es t)
    (hn : (assignEach es X.env).length = n := by rfl) (hst : (assignEach es X.env).findIdx? (·.1) = none := by rfl) : PG X (.Tuple es k pos) (gLst Kf n t) := by subst hK; exact pg_lst hc h hn hst
end
end VL

set_option maxHeartbeats 2000000
namespace VL
open PySem PySem.Spec PyProof.Rows L2
/-! a caught exception, kept by a name -/
theorem exH_ok {P : Program} {w : World} {H : Hp} {h : Heap} {x C : Addr} {dd : Option Addr} {oe : Obj} {vs : Array Value} (e : h.get? x = some oe) (z : Zc (.ref C) dd oe) (d : oe.data = .fields vs) : ObjOk P w H h x (exH x C dd) :=
  ⟨⟨oe, vs, e, z, d⟩, ⟨oe, e⟩, fun _ _ ⟨o, v, q, r⟩ k => ⟨o, v, k o q, r⟩⟩
section
variable {X : Cx} {pins : List (Addr × Obj)} {σ : L2.St} {H : Hp} {s : Shared}
/-- an object of the call's own is looked at from here on -/
theorem Inv.look {x C : Addr} {dd : Option Addr} {oe : Obj} {vs : Array Value} (I : Inv X ((x, oe) :: pins) σ H s) (z : Zc (.ref C) dd oe) (d : oe.data = .fields vs) (n0 : X.s_0.heap.get? x = none) (np : ∀ p ∈ X.pn ++ pins, p.1 ≠ x) :
    Inv X pins σ (upd H x (exH x C dd)) s := by
  have px := I.pin (x, oe) (List.mem_append_right _ List.mem_cons_self)
  obtain ⟨hx, hn, nl, nf, nc⟩ := px
  have hx : s.heap.get? x = some oe := hx
  have hn : H x = none := hn
  have far : ∀ {b : Addr} {o : Obj}, X.s_0.heap.get? b = some o → b ≠ x := fun {b o} e q => by rw [q, n0] at e; cases e
  have okx := exH_ok (P := X.prog) (w := X.w) (H := upd H x (exH x C dd)) hx z d
  exact {
    ok := I.ok
    os := I.os
    bare := I.bare
    base := {
      keep := I.base.keep
      slot := I.base.slot
      free := fun b o e n q => by rw [upd_ne (far e)]; exact I.base.free b o e n q
      there := I.base.there
      tups := fun b xs e => by
        have q := I.base.tups b xs e
        rw [upd_ne (ne_of_none q hn)]; exact q
      frzs := fun b o u e => by
        have q := I.base.frzs b o u e
        rw [upd_ne (ne_of_none q hn)]; exact q
      tbls := fun b ps e => by
        obtain ⟨more, q⟩ := I.base.tbls b ps e
        exact ⟨more, by rw [upd_ne (ne_of_none q hn)]; exact q⟩ }
    loc := I.loc
    cell := I.cell
    free := by
      rw [upd_ne (fun q => nl q.symm)]; exact I.free
    freeC := fun y c e => by
      have ne : c ≠ x := fun q => by
        obtain ⟨v, o, ho, hd⟩ := I.cell y c e
        rw [q, hx] at ho
        cases ho
        rw [d] at hd; cases hd
      rw [upd_ne ne]; exact I.freeC y c e
    pin := fun p hp => by
      have q := I.pin p (by
        rcases List.mem_append.mp hp with h | h
        · exact List.mem_append_left _ h
        · exact List.mem_append_right _ (List.mem_cons_of_mem _ h))
      exact ⟨q.1, by rw [upd_ne (np p hp)]; exact q.2.1, q.2.2⟩
    hok := fun b u e => by
      by_cases hb : b = x
      · rw [hb] at e ⊢
        rw [upd_same] at e
        cases e; exact okx
      · rw [upd_ne hb] at e
        exact (I.hok b u e).stay (fun _ _ _ q => q) (fun c q => by rw [upd_ne (ne_of_none q hn)]; exact q) fun c xs q => by rw [upd_ne (ne_of_none q hn)]; exact q
    len := I.len }
end
section
variable {X : Cx} {x n y : Str} {c : Value} {i j : Nat} {body : List Stmt} {np np2 yp apos pos pos' : Pos} {tb : WX → TS}
end
end VL

set_option maxHeartbeats 1000000
namespace VL
open PySem L2
variable [EC]
section
variable {A R R' : Type} {ec : Nat → Addr} {ea : A → List T} {mir : A → Res R'} {er : R' → T} {eo : R' → List (Option T)} {F : Fc} {tmp : Tmp} {s : State} {m : Res R} {K : Rs R} {N : Rn R} {Rt : Rr R} {t : TA} {E : XK} {te : TE}
/-! raise -/
theorem Hd.errP {G H : Hp} {ω : Addr → Option Lab} {σ : L2.St} (h : Hd F G ω tmp s σ H) (k : Nat) : ErrP F ⟨k, none⟩ none H :=
  ⟨G, h.g0, h.gH, h.gn, h.fr, h.ex, rfl⟩
end
/-! try -/
end VL

set_option maxHeartbeats 1000000
namespace VL
open PySem L2
/-! the classes of refusals -/
def xname : Nat → Str | 0 => "NetError" | 1 => "NoStanding" | 2 => "NoFit" | 3 => "NoText" | 4 => "NoName" | 5 => "NoRow" | 6 => "NoStep" | 7 => "Unfolding" | 8 => "Put" | _ => "Desk"
def clsA (K : PySem.W.Frag) (k : Nat) : Addr := match PySem.W.nsIn K mainGlobals (xname k) with | some (some (.ref c)) => c | _ => 0
def ecOf (P : Program) (w : World) (K : PySem.W.Frag) : EC := ⟨clsA K, P, w⟩
def isub (k j : Nat) : Bool := k == j || j == 0
open PySem.W in
structure XOne (K : PySem.W.Frag) (C : Addr) : Prop where
  cl : (clsIn K C).isSome = true
  ga : findIn K (.ref C) "__getattribute__" = some (some (.builtin "BaseException.__getattribute__"))
  gg : findIn K (.ref C) "__getattr__" = some none
  su : subIn K (.ref C) (.type "BaseException") = some true
  ha : findIn K (.ref C) "__class__" = some (some (.builtin "object.__class__"))
  hn : specialIn K (.builtin "object.__class__") "__get__" = some (some (.builtin "getset_descriptor.__get__"))
  ht : takesIn K (.builtin "object.__class__") = some true
  hm : mroIn K C (.type "object") = some true
  hd : hasDictIn K C = true
  kv : kitOne K (.ref C) (.type "ValueError") = some true
  kn : kitOne K (.type "NoneType") (.ref C) = some false
  no : findIn K (.ref C) "at" = some none
/-- what a text's own classes of refusals are -/
structure XF [EC] (K : PySem.W.Frag) (ks : List Nat) : Prop where
  one : ∀ k ∈ ks, XOne K (EC.ec k)
  kit : ∀ k ∈ ks, ∀ j ∈ ks, PySem.W.kitOne K (.ref (EC.ec k)) (.ref (EC.ec j)) = some (isub k j)
  exm : ∀ k ∈ ks, ∀ j ∈ ks, PySem.W.exmOne K (.ref (EC.ec k)) (.ref (EC.ec j)) = some (isub k j)
/-! isinstance(x, C), C a class of refusals or ValueError -/
variable [EC]
section
variable {R : Type} {F : Fc} {tmp : Tmp} {s : State} {m : Res R} {K : Rs R} {ta : TE} {Kf : PySem.W.Frag}
end
/-! e.at -/
section
variable {R : Type} {F : Fc} {tmp : Tmp} {s : State} {m : Res R} {K : Rs R} {ta : TE} {Kf : PySem.W.Frag}
end
end VL

namespace VL
open PySem L2
/-- the law, behind its top -/
theorem walk_ofE {l : PySem.W.OpenLaw} {k : Nat} {q : Program} {loose : List Str} {XP : (Str → Option Value) → Heap → Prop} {YP : World → Heap → Prop} {d : DefRec} {K : Params → PySem.W.Frag} {mir : D → Res D}
    (hn : l.most = some 63) (hdf : d.params.defaults = []) (hr : Room k callerA) (hY : ∀ (w : World) (h : Heap), YP w h → (K w.params).In h)
    (F : ∀ (w : World) (mg : Str → Option Value) (fa : Addr) (h : Heap), (K w.params).In h → h.Ns mainGlobals mg → mg d.name = some (.ref fa) →
      ∃ fd : FuncData, (∀ (s : Shared) (u : Value), BindsTo s fd ⟨[u], []⟩ [("script", u)]) ∧
        ∀ base : Heap, (K w.params).In base → base.Ns mainGlobals mg → FnOk l.prog w (K w.params) mg base CX0 k fa fd ["script"] (@spOf (ecOf l.prog w (K w.params)) D D (@EC.ec (ecOf l.prog w (K w.params))) (fun a => [.f a]) mir (fun r => .f r) fun _ => [none]))
    (hno : ∀ w : World, ((K w.params).all fun p => noL p.2) = true) (hm : ∀ ns : List Int, ns.length ≤ 63 → mir (.lst (ns.map .int)) = .ok (.bl true)) :
    PySem.W.WalkO q loose XP YP l.row.toRowW d [] (fun f vs => PySem.call f vs) :=
  walk_of (n := 63) (CX := fun _ => CX0) (sp := fun w => @spOf (ecOf l.prog w (K w.params)) D D (@EC.ec (ecOf l.prog w (K w.params))) (fun a => [.f a]) mir (fun r => .f r) fun _ => [none]) hn (by decide) hdf hr hY F
    (fun w H a ns hl _ hS => @law_end (ecOf l.prog w (K w.params)) (K w.params) H a ns _ mir (hno w) hl hS (hm ns hl)) (fun _ _ _ _ _ h => h)
end VL
namespace VL
open PySem L2
end VL

namespace VL
open PySem L2 PySem.Spec PyProof.Rows
def notbD : D → D → Option Bool | .bl a, .bl b => some (!decide (a = b)) | _, _ => none
def tupleD : D → Option D | .lst l => some (.tup l) | .str x => if x.length ≤ 1000 then some (.tup (strL x)) else none | _ => none
def countD (l x : D) : Option D := match l, x with
  | .lst l, .str x => (strsD l).map fun ys => .int ((ys.countP fun y => y == x : Nat) : Int)
  | _, _ => none
variable [EC]
theorem o_notb : Op2B rNotB notbD := fun H x y a b c Q ra rb e q => by
  cases a <;> cases b <;> try (cases e; done)
  cases e
  exact ⟨_, _, ra, rb, q⟩
def charsV (a : Str) : List V := a.cps.toList.map fun c => V.str ⟨#[c]⟩
def rTuple (K : PySem.W.Frag) : List V → Hp → VK → Prop := fun xs H Q => (∃ p ys, xs = [V.ref p] ∧ SqL K H p ys ∧ ∀ l, H l = none → Q (.ref l) (upd H l (.tup ys))) ∨ ∃ a : Str, xs = [.str a] ∧ a.length ≤ sizeLine ∧ ∀ p, H p = none → Q (.ref p) (upd H p (.tup (charsV a)))
theorem vals_signs {x : Str} {acc : Array Value} (h : ItemsOf (SignAt x) acc x.cps.size) : Vals (charsV x) acc.toList := by
  refine vals_of_at (by simp [charsV, h.1]) fun j y u h1 h2 => ?_
  obtain ⟨c, t, hc, rfl⟩ := h.2 j u (by rw [← h2, Array.getElem?_toList])
  simp only [charsV, List.getElem?_map, Array.getElem?_toList, hc] at h1
  cases h1
  exact ⟨t, rfl⟩
theorem reps_strL {G : Hp} : ∀ x : List Nat, Reps G (strL x) (x.map fun c => V.str ⟨#[c]⟩)
  | [] => rfl
  | c :: r => ⟨_, _, rfl, rfl, reps_strL r⟩
section
variable {X : Cx} {Kf : PySem.W.Frag}
theorem call_tupleK (hK : X.K = Kf) (hc : X.calm = true) : CallR X (.type "tuple") (rTuple Kf) := by
  subst hK
  intro pins s σ H xs us Q I r h
  rcases h with ⟨p, ys, e, hq, q⟩ | ⟨a, rfl, hz, q⟩
  · exact call_tuple_of pins s σ H xs us Q I r ⟨p, ys, e, .inl ⟨hq, q⟩⟩
  · obtain ⟨u, rfl, t, rfl⟩ := vals1 r
    refine call_tuple_str (I.ok.hd hc) a t (fun h' tk acc kp hacc => ?_) hz
    have I1 : Inv X pins σ H { s with heap := h', toks := tk } := I.kept (t' := tk) kp
    have I2 : Inv X pins σ (upd H h'.objs.size (.tup (charsV a))) { s with heap := h'.push { cls := .type "tuple", data := .seq acc }, toks := tk } :=
      I1.laid (t' := tk) (fun b o e => Heap.get?_push_of_some _ e) (Nat.le_refl _) (show ObjOk X.prog X.w _ _ _ (.tup (charsV a)) from ⟨by simpa [charsV, Str.length] using hz, acc.toList, vals_signs hacc, by simpa using IsTup.new h' acc⟩)
    exact ⟨.ref h'.objs.size, _, I2, rfl, q _ (I1.hok.fresh (Nat.le_refl _))⟩
end
def rCount (K : PySem.W.Frag) : V → List V → Hp → VK → Prop := fun x xs H Q => ∃ (p : Addr) (ys : List Str) (k : Str), x = .ref p ∧ xs = [.str k] ∧ SqL K H p (ys.map V.str) ∧ Q (.int (ys.countP (fun y => y == k) : Nat)) H
def eqs (k : Str) (v : Value) : Bool := match v with
  | .str n _ => n.cps.toList == k.cps.toList
  | _ => false
theorem str_beq (a b : Str) : (a == b) = (a.cps.toList == b.cps.toList) := by
  rw [← mkS_of a, ← mkS_of b, mkS_beq, mkS_cps, mkS_cps]
theorem eqs_gives {k : Str} {t : Tok} : ∀ {us : List Value} {ns : List Str}, StrsAre us ns → ∀ y ∈ us, MeetsSeq.EqGives y (.str k t) (eqs k y)
  | _, _, .nil => fun y hy => by cases hy
  | _, _, .cons n t' h => fun y hy => by
    rcases List.mem_cons.mp hy with e | e
    · rw [e]
      exact PySem.SeqRoads2.EqGives.str n k t' t
    · exact eqs_gives h y e
theorem eqs_count {k : Str} : ∀ {us : List Value} {ns : List Str}, StrsAre us ns → us.countP (eqs k) = ns.countP fun y => y == k
  | _, _, .nil => rfl
  | _, _, .cons n t h => by
    have ih := eqs_count (k := k) h
    rw [List.countP_cons, List.countP_cons, ih]
    show _ + (if (n.cps.toList == k.cps.toList) = true then 1 else 0) = _ + (if (n == k) = true then 1 else 0)
    rw [str_beq]
section
variable {X : Cx} {Kf : PySem.W.Frag}
theorem mt_countK (hK : X.K = Kf) : MtR X "list.count" (rCount Kf) := by
  subst hK
  intro pins s σ H x xs v us Q I rx rxs h
  obtain ⟨p, ns, k, rfl, rfl, hs, q⟩ := h
  cases rx
  obtain ⟨u, rfl, ru⟩ := rxs.one
  obtain ⟨t, rfl⟩ := ru
  obtain ⟨its, rv, ⟨⟨cls, dd, data, sl⟩, n, ho, hc, hdn, hd⟩, hlen⟩ := I.list hs
  simp only at hc hd
  subst hc hd
  have hi := Vals.strs rv
  refine call_meets PySem.F.slot_list_count ⟨_, ho, rfl⟩ PySem.F.entry_list_count (PySem.F.args_list_count_2 _ _)
    (SeqAt.list_countAt p its.toArray n dd sl (.str k t) (eqs k)) ⟨ho, fun y hy => (eqs_gives hi y (by simpa using hy)).at _ _, ?_⟩
  have ec : its.toArray.toList.countP (eqs k) = ns.countP fun y => y == k := eqs_count hi
  refine ⟨.int (ns.countP (fun y => y == k) : Nat), H, I.tok _, ⟨s.toks, ?_⟩, q⟩
  show Value.int ((its.toArray.toList.countP (eqs k) : Nat) : Int) s.toks = Value.int ((ns.countP (fun y => y == k) : Nat) : Int) s.toks
  rw [ec]
end
section
variable {R : Type} {F : Fc} {tmp : Tmp} {s : State} {m : Res R} {K : Rs R} {N : Rn R} {Rt : Rr R} {ta tb tc to te td ty tx : TE} {Kf : PySem.W.Frag}
theorem rt_chain {r r' : R2} {op op' : D → D → Option Bool} {K : Bool → State → Res R → Prop} (ho : Op2B r op) (ho' : Op2B r' op')
    (h : RD F tmp s ta m (fun tm1 s1 m1 => ∀ x, RD F ((x, tm1) :: tmp) s1 tb m1 (fun tm2 s2 m2 => ∃ a b kk, valT s2 tm1 = some a ∧ valT s2 tm2 = some b ∧ m2 = ob (op a b) kk ∧
      ∀ c : Bool, ∃ (ma : Res Bool) (k : Bool → Res R), kk c = rb (if c = true then ma else .ok false) k ∧
        (c = true → ∀ y, RD F ((y, tm2) :: (x, tm1) :: tmp) s2 tc ma (fun tm3 s3 m3 => ∃ b' d, valT s3 tm2 = some b' ∧ valT s3 tm3 = some d ∧ m3 = ob (op' b' d) (fun e => .ok e) ∧ Sub s3 s2)) ∧ ∀ e, K e s2 (k e)))) :
    RT F tmp s m (tTest (tChain r r' ta tb tc)) K := fun σ H Q hh nf eo q =>
  h σ H _ hh nf eo fun tm1 s1 x H1 h2 h1 => h2 x σ H1 _ h1 nf eo fun tm2 s2 y H2 ⟨a, b, kk, ea, eb, em, hk⟩ h3 => by
    obtain ⟨c, ec, em'⟩ := ob_cases (by rw [← em]; exact nf)
    have h4 := h3
    obtain ⟨G, ω, h3⟩ := h3
    obtain ⟨ma, k, ek, hu, hk⟩ := hk c
    rw [← em', ← em] at ek
    refine ho H2 x y a b c _ (h3.repT h3.tm.2.1 ea) (h3.repT h3.tm.1 eb) ec ⟨c, rfl, ?_⟩
    cases c with
    | false =>
      simp only [Bool.false_eq_true, if_false] at ek ⊢
      exact ⟨false, rfl, q false s2 H2 (by rw [ek]; exact hk false) h4.pop.pop⟩
    | true =>
      simp only [if_true] at ek ⊢
      have nf' : ma ≠ .fail := fun z => nf (by rw [ek, z]; rfl)
      refine hu rfl y σ H2 _ h4 nf' (eo.of fun e he => by rw [ek, he]; rfl) fun tm3 s3 z H3 ⟨b', d, eb', ed, em3, sb⟩ h5 => ?_
      obtain ⟨e, ee, em3'⟩ := ob_cases (by rw [← em3]; exact nf')
      have h6 := h5
      obtain ⟨G5, ω5, h5⟩ := h5
      exact ho' H3 y z b' d e _ (h5.repT h5.tm.2.1 eb') (h5.repT h5.tm.1 ed) ee ⟨e, rfl, q e s2 H3 (by rw [ek, em3, em3']; exact hk e) (h6.pop.pop.pop.sub sb)⟩
theorem rs_onN {Z R' : Type} {z : Z} {f : Z → Res R} {g : R' → Res R} {tb : TS} (h : RS F tmp s (f z) tb N Rt) : RS F tmp s (Fl.on (.nx z) f g) tb N Rt := h
/-! tuple(..), list(..) -/
theorem rd_tupL (h : RD F tmp s ta m (fun tm1 s1 m1 => ∃ a k, valS s1 tm1 = some a ∧ m1 = ob (tupleD a) k ∧ ∀ c, K (.own (.f c)) s1 (k c))) : RD F tmp s (tCB (rTuple Kf) (tCons ta tNil)) m K := fun σ H Q hh nf eo q =>
  h σ H _ hh nf eo fun tm1 s1 x H1 ⟨a, k, ea, em, hk⟩ h1 => by
    obtain ⟨c, ec, em'⟩ := ob_cases (by rw [← em]; exact nf)
    obtain ⟨G, ω, h1⟩ := h1
    have r := h1.repC h1.tm.1 ea
    cases a <;> try (cases ec; done)
    · rename_i x
      simp only [tupleD] at ec
      split at ec
      · rename_i hx
        cases ec
        refine .inr ⟨mkS x, congrArg (fun v => [v]) r, by rw [mkS_len, sizeLine_eq]; omega, fun p np => ?_⟩
        refine q _ s1 _ _ (by rw [em, em']; exact hk _) (h1.pop.newT np (by rw [sizeLine_eq]; simp [strL]; omega) ?_)
        show Reps G _ ((mkS x).cps.toList.map _)
        rw [mkS_cps]
        exact reps_strL x
      · cases ec
    · cases ec
      obtain ⟨p, vs, e, g, z, rr⟩ := r
      subst e
      exact .inl ⟨p, vs, rfl, .inl g, fun l nl => q _ s1 _ _ (by rw [em, em']; exact hk _) (h1.pop.newT nl z rr)⟩
/-! list.count of texts -/
theorem rd_count (h : RD F tmp s to m (fun tm1 s1 m1 => ∃ d k, valS s1 tm1 = some d ∧ m1 = ob (asLst d) k ∧ ∀ l0 x, RD F ((x, tm1) :: tmp) s1 te (k l0) (fun tm2 s2 m2 => ∃ a b k, valS s2 tm1 = some a ∧ valS s2 tm2 = some b ∧ m2 = ob (countD a b) k ∧ ∀ c, K (.own (.f c)) s2 (k c)))) :
    RD F tmp s (tBM Kf "list" (rCount Kf) to (tCons te tNil)) m K := fun σ H Q hh nf eo q =>
  h σ H _ hh nf eo fun tm1 s1 x H1 ⟨d, k0, e0, em0, h2⟩ h1 => by
    obtain ⟨l0, ed, em0'⟩ := ob_cases (by rw [← em0]; exact nf)
    rw [asLst_eq ed] at e0
    have ht : tyV Kf "list" x H1 := by
      obtain ⟨G, ω, h3⟩ := h1
      obtain ⟨a, vs, e, g, z, r⟩ := h3.repC h3.tm.1 e0
      subst e
      exact .inl ⟨rfl, vs, .inl g⟩
    have h2' := h2 l0 x
    rw [← em0', ← em0] at h2'
    refine ⟨ht, h2' σ H1 _ h1 nf eo fun tm2 s2 y H2 ⟨a, b, k, ea, eb, em, hk⟩ h3 => ?_⟩
    obtain ⟨c, ec, em'⟩ := ob_cases (by rw [← em]; exact nf)
    have h5 := h3
    obtain ⟨G, ω, h4⟩ := h3
    have ra := h4.repC h4.tm.2.1 ea
    have rb := (h4.repC h4.tm.1 eb).toR h4.gH
    cases a <;> try (cases ec; done)
    cases b <;> try (cases ec; done)
    rename_i l y0
    simp only [countD] at ec
    cases e2 : strsD l with
    | none => rw [e2] at ec; cases ec
    | some ys =>
      rw [e2] at ec
      cases ec
      obtain ⟨p, vs, e, g, z, r⟩ := ra
      have hv := strs_ok e2 r
      subst e
      refine ⟨p, ys.map mkS, mkS y0, rfl, by rw [show y = _ from rb], .inl (by rw [← hv]; exact g), ?_⟩
      refine q _ s2 _ _ (by rw [em, em']; exact hk _) ?_
      rw [show (ys.map mkS).countP (fun y => y == mkS y0) = ys.countP fun y => y == y0 by rw [List.countP_map]; congr 1; funext y; exact mkS_beq _ _]
      exact ⟨G, ω, h4.pop.pop.pushF (d := .int _) rfl⟩
end
end VL

namespace VL
open PySem L2 PySem.W PyProof.Rows
variable [EC]
section
variable {X : Cx} {pins : List (Addr × Obj)} {σ : List (Option V)} {H : Hp} {s : Shared}
end
end VL

namespace VL
open PySem L2 PySem.SeqAt
/-! dict and text are never equal -/
section
variable {prog : Program} {w : World} {A : Around} {E : Value → Shared → Prop} {s : Shared}
theorem str_eq_declines_dict (b : Str) (u : Tok) (l : Addr) (c : Value) (es : Array DictEntry) (n : Nat) (dd : Option Addr) (sl : Array (Option Value)) :
    Meets (Builtin.«str.__eq__» ⟨[.str b u, .ref l], []⟩) (fun _ R s => s.heap.get? l = some { cls := c, dict := dd, data := .dict es n, slots := sl } ∧ R (.ok (.ret .notImplemented)) s) :=
  .of_wp fun prog w A R s h => by obtain ⟨hp, g, d, tk, os⟩ := s; obtain ⟨hl, h⟩ := h; wp_walk using wpAny_loadPart' hl, wpAny_load hl; exact ⟨_, rfl, h⟩
theorem dict_declines {T : String} {d : Addr} {x : Value} {Q' : Value → Shared → Prop} (dt : s.TypeIs (.ref d) "dict") (ty : s.TypeIs x T) (sub : isSubtype (.type T) (.type "dict") = pure false) (hq : Q' .notImplemented s) :
    wpAny (model prog w) A (call (.builtin "dict.__eq__") [.ref d, x]) Q' E s := by
  refine wpAny_call_entry PySem.F.slot_dict_eq dt PySem.F.entry_dict_eq ?_ (PySem.F.args_dict_eq_2 _ _)
  show wpAny _ _ (Builtin.Dict.dictSlotArgs "__eq__" ⟨[.ref d, x], []⟩ >>= _) _ _ s
  refine wpAny_bind ?_
  unfold Builtin.Dict.dictSlotArgs
  refine wpAny_bind (wpAny_notOrdered_dict dt ?_)
  show wpAny _ _ (pure (Value.ref d, x)) _ _ s
  refine wpAny_pure ?_
  refine wpAny_bind (wpAny_isInstance (T := T) ty sub ?_)
  simp only [Bool.not_false, if_true]
  refine wpAny_bind (wpAny_rule ?_)
  exact wpAny_pure ⟨_, rfl, hq⟩
end
section
variable {A : Around} {s : Shared}
theorem RcAt.str_dict {l : Addr} {o : Obj} {es : Array DictEntry} {n : Nat} (b : Str) (u : Tok) (ho : s.heap.get? l = some o) (hc : o.cls = .type "dict") (hd : o.data = .dict es n) (hu : A.units < cLine) : RcAt A s (.str b u) (.ref l) false := fun prog w E Q h => by
  obtain ⟨cls, dd, data, sl⟩ := o
  simp only at hc hd
  subst hc hd
  have ht : s.TypeIs (.ref l) "dict" := ⟨_, ho, rfl⟩
  exact rc_eq_decline_or (k := false) (typeIs_str s b u) ht (by decide) PySem.F.sub_dict_str PySem.F.slot_str_eq PySem.F.slot_dict_eq_refl
    (fun _ hq => call_meets PySem.F.slot_str_eq (typeIs_str s b u) PySem.F.entry_str_eq (PySem.F.args_str_eq_2 _ _) (str_eq_declines_dict b u l (.type "dict") es n dd sl) ⟨ho, hq⟩)
    (fun _ hq => dict_declines ht (typeIs_str s b u) PySem.F.sub_str_dict hq)
    (fun _ hq => wpAny_of_eq (rfl : isSame (.str b u) (.ref l) = pure false) hq) (.inr hu) h
theorem EqAt.str_dict {l : Addr} {o : Obj} {es : Array DictEntry} {n : Nat} (b : Str) (u : Tok) (ho : s.heap.get? l = some o) (hc : o.cls = .type "dict") (hd : o.data = .dict es n) (hu : A.units < cLine) : EqAt A s (.str b u) (.ref l) false := fun prog w E Q h => by
  unfold eqBool
  refine wpAny_holding ?_
  refine wpAny_ite_split (fun hab => absurd (eq_of_beq hab) nofun) (fun _ => ?_)
  exact wpAny_bind (RcAt.str_dict b u ho hc hd hu prog w E _ (wpAny_truthy_bool h))
end
def isDc : D → Bool | .dct false _ => true | _ => false
def isSt : D → Bool | .str _ => true | _ => false
/-- what `==` says of an item of the list and the thing looked for -/
def eqx (d a : D) : Bool := if isDc a = true then false else D.eqv d a
/-- a pair of a dict and a text; a pair of texts -/
def isDcT : D → Bool | .tup [.dct false _, .str _] => true | _ => false
def isStT : D → Bool | .tup [.str _, .str _] => true | _ => false
def inOk (a : D) (l : List D) : Bool := (a.plain && D.plains l && decide (D.deps l ≤ 60)) || (isDc a && l.all isSt || isDcT a && l.all isStT)
def inE (a b : D) : Option Bool := match b with
  | .lst l => if inOk a l = true then some (l.any fun d => eqx d a) else none
  | .tup l => if inOk a l = true then some (l.any fun d => eqx d a) else none
  | _ => none
variable [EC]
section
variable {X : Cx} {pins : List (Addr × Obj)} {σ : List (Option V)} {H : Hp} {s : Shared}
theorem plains_get {l : List D} (h : D.plains l = true) : ∀ d ∈ l, d.plain = true := by
  induction l with
  | nil => intro d m; cases m
  | cons a r ih =>
    simp only [D.plains, Bool.and_eq_true] at h
    intro d m
    rcases List.mem_cons.mp m with e | m
    · rw [e]; exact h.1
    · exact ih h.2 d m
theorem deps_get {l : List D} : ∀ d ∈ l, d.dep ≤ D.deps l := by
  induction l with
  | nil => intro d m; cases m
  | cons a r ih =>
    simp only [D.deps]
    intro d m
    rcases List.mem_cons.mp m with e | m
    · rw [e]; omega
    · have := ih d m; omega
noncomputable def hitD (H : Hp) (l : List D) (a : D) (v : Value) : Bool := open Classical in if h : ∃ d, d ∈ l ∧ ∃ x, RelV x v ∧ Rep H d x then eqx h.choose a else false
theorem plain_of_ok {a : D} {l : List D} (h : inOk a l = true) : ∀ d ∈ l, d.plain = true := by
  simp only [inOk, Bool.or_eq_true, Bool.and_eq_true] at h
  rcases h with h | h | h
  · exact plains_get h.1.2
  · intro d m
    have := List.all_eq_true.mp h.2 d m
    cases d <;> first | (cases this; done) | rfl
  · intro d m
    have := List.all_eq_true.mp h.2 d m
    unfold isStT at this
    split at this
    · rfl
    · cases this
theorem hit_eq {l : List D} {a d : D} {x : V} {v : Value} (hp : ∀ d ∈ l, d.plain = true) (hd : d ∈ l) (r : RelV x v) (q : Rep H d x) : hitD H l a v = eqx d a := by
  have h : ∃ d, d ∈ l ∧ ∃ x, RelV x v ∧ Rep H d x := ⟨d, hd, x, r, q⟩
  have e : hitD H l a v = eqx h.choose a := by
    show (open Classical in if h : ∃ d, d ∈ l ∧ ∃ x, RelV x v ∧ Rep H d x then eqx h.choose a else false) = _
    rw [dif_pos h]
  obtain ⟨m, y, ry, qy⟩ := h.choose_spec
  rw [e]
  have ey := ry.inj r
  rw [ey] at qy
  rw [rep_inj h.choose d x (hp _ m) (hp _ hd) qy q]
theorem hit_at (I : Inv X pins σ H s) {l : List D} {a : D} {y : V} {w : Value} (A : Around) (hok : inOk a l = true) (hu : A.units + 64 < cLine) (ra : Rep H a y) (rw_ : RelV y w) {d : D} {x : V} {v : Value} (hd : d ∈ l) (r : RelV x v) (q : Rep H d x) : EqAt A.in1 s v w (hitD H l a v) := by
  rw [hit_eq (plain_of_ok hok) hd r q]
  simp only [inOk, Bool.or_eq_true, Bool.and_eq_true, decide_eq_true_eq] at hok
  rcases hok with ⟨⟨p1, p2⟩, p3⟩ | ⟨p1, p2⟩ | ⟨p1, p2⟩
  · have e : eqx d a = D.eqv d a := by unfold eqx; rw [if_neg]; intro z; cases a <;> first | cases z | cases p1
    rw [e]
    have := deps_get d hd
    exact eqAt_d I d a A.in1 x y v w (plains_get p2 d hd) p1 q ra r rw_ (by rw [in1_units]; omega)
  · have hs := List.all_eq_true.mp p2 d hd
    cases d <;> try (cases hs; done)
    rename_i t
    cases (show x = .str (mkS t) from q)
    obtain ⟨u, rfl⟩ := r
    have e : eqx (.str t) a = false := by unfold eqx; rw [if_pos p1]
    rw [e]
    cases a <;> try (cases p1; done)
    rename_i k kv
    cases k with
    | true => cases p1
    | false =>
      obtain ⟨p, kvs, ey, g, rk⟩ := ra
      subst ey
      cases rw_
      obtain ⟨_, _, vs, _, o, es, ep, ho, hx, hd2, _⟩ := (show ObjOk X.prog X.w H s.heap p (.dK kvs) from rd_of I.hok g)
      exact EqAt.str_dict _ _ ho hx.1 hd2 (by rw [in1_units]; omega)
  · have hs := List.all_eq_true.mp p2 d hd
    unfold isStT at hs
    split at hs <;> try (cases hs; done)
    rename_i t1 t2
    unfold isDcT at p1
    split at p1 <;> try (cases p1; done)
    rename_i kv z
    have e : eqx (.tup [.str t1, .str t2]) (.tup [.dct false kv, .str z]) = false := by
      unfold eqx
      rw [if_neg (by simp [isDc])]
      show (D.eqv (.str t1) (.dct false kv) && D.eqvs [.str t2] [.str z]) = false
      have : D.eqv (.str t1) (.dct false kv) = false := by simp [D.eqv]
      rw [this]; rfl
    rw [e]
    obtain ⟨b1, vs, its, eb, eu, hl, v1, q1, n1⟩ := at_tup I q r
    obtain ⟨b2, ws, its2, eb2, eu2, hm, v2, q2, n2⟩ := at_tup I ra rw_
    obtain ⟨x1, vr1, ex1, g1, x2, vr2, ex2, g2, ex3⟩ := q1
    obtain ⟨y1, wr1, ey1, k1, y2, wr2, ey2, k2, ey3⟩ := q2
    subst ex1 ex2 ey1 ey2
    cases (show vr2 = [] from ex3)
    cases (show wr2 = [] from ey3)
    cases (show x1 = .str (mkS t1) from g1)
    cases (show x2 = .str (mkS t2) from g2)
    cases (show y2 = .str (mkS z) from k2)
    cases v1 with
    | cons a1 v1 =>
    cases v1 with
    | cons a2 v1 =>
    cases v1
    cases v2 with
    | cons c1 v2 =>
    cases v2 with
    | cons c2 v2 =>
    cases v2
    obtain ⟨u1, rfl⟩ := a1
    obtain ⟨u2, rfl⟩ := a2
    obtain ⟨u3, rfl⟩ := c2
    obtain ⟨p, kvs, ey, g, rk⟩ := k1
    subst ey
    cases c1
    obtain ⟨_, _, vs', _, o, es, ep, ho, hx, hd2, _⟩ := (show ObjOk X.prog X.w H s.heap p (.dK kvs) from rd_of I.hok g)
    have hne : b1 ≠ b2 := fun hab => by
      subst hab
      obtain ⟨o1, h1, _, m1, d1⟩ := hl
      obtain ⟨o2, h2, _, m2, d2⟩ := hm
      rw [h1] at h2
      cases h2
      rw [d1] at d2
      injection d2 with d2 _
      have := congrArg (fun a : Array Value => a[0]?) d2
      simp at this
    rw [eu, eu2]
    have hA : A.in1.units < cLine := by rw [in1_units]; omega
    have zz := EqAt.of_refs hne (RcAt.tuples (A := A.in1) (e := fun j => if j = 0 then false else (mkS t2 == mkS z)) hl hm hA fun j j1 j2 => by
      match j, j1, j2 with
      | 0, _, _ => exact EqAt.str_dict _ _ ho hx.1 hd2 (by rw [in1_units, in1_units]; omega)
      | 1, _, _ => exact EqAt.str_str _ _ _ _)
    exact zz
theorem any_hit {l : List D} {a : D} (hp : ∀ d ∈ l, d.plain = true) : ∀ (m : List D) (xs : List V) (us : List Value), (∀ d ∈ m, d ∈ l) → Reps H m xs → Vals xs us → us.any (hitD H l a) = m.any fun d => eqx d a
  | [], xs, us, _, h, r => by cases (show xs = [] from h); cases r; rfl
  | d :: m, xs, us, hm, ⟨x, r0, e, h, q⟩, r => by
    subst e
    cases r with
    | cons z1 v1 =>
      rw [List.any_cons, List.any_cons, hit_eq hp (hm d List.mem_cons_self) z1 h, any_hit hp m r0 _ (fun d' h' => hm d' (List.mem_cons_of_mem _ h')) q v1]
def rInE (K : PySem.W.Frag) (neg : Bool) : R2 := fun x y H Q => ∃ (p : Addr) (xs : List V) (l : List D) (a : D), y = .ref p ∧ (SqL K H p xs ∨ SqT K H p xs) ∧ Rep H a x ∧ Reps H l xs ∧ inOk a l = true ∧ Q (.bl (if neg then !(l.any fun d => eqx d a) else l.any fun d => eqx d a)) H
theorem mem_reps {m : List D} {xs : List V} {us : List Value} (h : Reps H m xs) (r : Vals xs us) {v : Value} (hv : v ∈ us) : ∃ d ∈ m, ∃ x, RelV x v ∧ Rep H d x := by
  induction m generalizing xs us with
  | nil => cases (show xs = [] from h); cases r; cases hv
  | cons d m ih =>
    obtain ⟨x, r0, e, h, q⟩ := h
    subst e
    cases r with
    | cons z1 v1 =>
      rcases List.mem_cons.mp hv with e | hv
      · subst e; exact ⟨d, List.mem_cons_self, x, z1, h⟩
      · obtain ⟨d', m', x', a, b⟩ := ih q v1 hv
        exact ⟨d', List.mem_cons_of_mem _ m', x', a, b⟩
theorem op_inEK {Kf : PySem.W.Frag} (hK : X.K = Kf) (hu : X.A.units + 64 < cLine) : OpR X (compareOp .In) (rInE Kf false) := by
  subst hK
  intro pins s σ H x y v u Q I rx ry h
  obtain ⟨p, xs, l, a, rfl, hq, ha, hl, hok, q⟩ := h
  cases ry
  rcases hq with hq | hq
  · obtain ⟨its, r, pl, hz⟩ := I.list hq
    refine in_listAt (hitD H l a) pl.isList (fun w hw => ?_) ⟨.bl _, H, I, rfl, ?_⟩
    · obtain ⟨d, hd, x', r1, q1⟩ := mem_reps hl r (show w ∈ its by simpa using hw)
      exact hit_at I X.A hok hu ha rx hd r1 q1
    · rw [show its.toArray.any (hitD H l a) = its.any (hitD H l a) by simp, any_hit (plain_of_ok hok) l xs its (fun _ h => h) hl r]
      exact q
  · obtain ⟨its, r, pl, hz⟩ := I.tuple hq
    refine in_tupleAt (hitD H l a) pl (fun w hw => ?_) ⟨.bl _, H, I, rfl, ?_⟩
    · obtain ⟨d, hd, x', r1, q1⟩ := mem_reps hl r (show w ∈ its by simpa using hw)
      exact hit_at I X.A hok hu ha rx hd r1 q1
    · rw [show its.toArray.any (hitD H l a) = its.any (hitD H l a) by simp, any_hit (plain_of_ok hok) l xs its (fun _ h => h) hl r]
      exact q
end
theorem inE_cases {K : PySem.W.Frag} {H : Hp} {x y : V} {a b : D} {c : Bool} (ra : Rep H a x) (rb : Rep H b y) (e : inE a b = some c) :
    ∃ (p : Addr) (xs : List V) (l : List D), y = .ref p ∧ (SqL K H p xs ∨ SqT K H p xs) ∧ Reps H l xs ∧ inOk a l = true ∧ (l.any fun d => eqx d a) = c := by
  cases b <;> try (cases e; done)
  all_goals
    rename_i l
    simp only [inE] at e
    split at e
    · cases e
      rename_i h
      obtain ⟨p, xs, e, g, z, r⟩ := rb
      first | exact ⟨p, xs, l, e, .inr (.inl (.inl g)), r, h, rfl⟩ | exact ⟨p, xs, l, e, .inl (.inl g), r, h, rfl⟩
    · cases e
theorem o_inE {K : PySem.W.Frag} : Op2B (rInE K false) inE := fun H x y a b c Q ra rb e q => by
  obtain ⟨p, xs, l, e1, e2, e3, e4, e5⟩ := inE_cases (K := K) ra rb e
  exact ⟨p, xs, l, a, e1, e2, ra, e3, e4, by simp only [Bool.false_eq_true, if_false]; rw [e5]; exact q⟩
end VL

namespace VL
open PySem L2 PySem.Spec PyProof.Rows PySem.W
/-! zip(list, text) in a loop -/
/-! tuples: the value of a frozen tuple; slices, sums, walks -/
def slT (lo hi : Option Int) : D → Option D | .tup l => some (.tup (cut l lo hi)) | _ => none
def catT : D → D → Option D | .tup a, .tup b => if a.length + b.length ≤ 1000 then some (.tup (a ++ b)) else none | _, _ => none
def asTup : D → Option (List D) | .tup l => some l | _ => none
variable [EC]
section
variable {F : Fc} {G H : Hp} {ω : Addr → Option Lab} {tmp : Tmp} {s : State} {σ : L2.St} {v : V} {t : T}
theorem Hd.repTup (h : Hd F G ω tmp s σ H) {p : Lab} {tm : TM} {l : List D} (ok : TmOk G H ω σ p tm v) (e : valS s tm = some (.tup l)) : Rep G (.tup l) v := by
  unfold valS at e
  cases e2 : treeAt s tm with
  | none => rw [e2] at e; cases e
  | some t =>
    rw [e2] at e
    obtain ⟨q, o⟩ := h.tree ok e2
    cases t with
    | f d' => cases e; exact o
    | l ds => cases e
    | dc k l => cases e
    | ll ts => cases e
    | tt ts => cases e
    | dl ks ts => cases e
    | nx _ _ _ => cases e
    | no _ _ _ => cases e
    | ob _ _ _ => cases e
    | hole w => cases e
    | lf l => cases e
end
section
variable {R : Type} {F : Fc} {tmp : Tmp} {s : State} {m : Res R} {K : Rs R} {ta tb te to : TE} {Kf : PySem.W.Frag}
theorem rd_slT {tl th : TO} (h : RD F tmp s ta m (fun tm s1 m1 => ∀ x, RO F ((x, tm) :: tmp) s1 m1 tl (fun lo s2 m2 => RO F ((x, tm) :: tmp) s2 m2 th (fun hi s3 m3 => ∃ d k, valS s3 tm = some d ∧ m3 = ob (slT lo hi d) k ∧ ∀ c, K (.own (.f c)) s3 (k c))))) :
    RD F tmp s (tSl (rSlA Kf) ta tl th) m K := fun σ H Q hh nf eo q =>
  h σ H _ hh nf eo fun tm s1 x H1 h2 h1 => h2 x σ H1 _ h1 nf eo fun lo s2 H2 h3 hh2 => h3 σ H2 _ hh2 nf eo fun hi s3 H3 ⟨d, k, ea, em, hk⟩ hh3 => by
    obtain ⟨c, ec, em'⟩ := ob_cases (by rw [← em]; exact nf)
    obtain ⟨G, ω, h4⟩ := hh3
    cases d <;> try (cases ec; done)
    rename_i l
    cases ec
    obtain ⟨p, vs, e1, g, z, r⟩ := h4.repTup h4.tm.1 ea
    refine ⟨p, vs, e1, .inl (.inl (h4.gH _ _ g)), fun hw => ?_, fun hw p2 np => q _ s3 _ _ (by rw [em, em']; exact hk _) (h4.pop.newT np ?_ ?_)⟩
    · refine q _ s3 _ _ (by rw [em, em']; exact hk _) ⟨G, ω, h4.pop.pushF (d := .tup _) ⟨p, vs, rfl, g, ?_, ?_⟩⟩
      · exact Nat.le_trans (cut_len _ lo hi) z
      · unfold cut
        rw [r.length, hw.1, hw.2, List.drop_zero, Nat.sub_zero, ← r.length, List.take_length]
        exact r
    · exact Nat.le_trans (cut_len _ lo hi) z
    · unfold cut cutV
      rw [← r.length]
      exact (r.drop _).take _
theorem rd_catT (h : RD F tmp s ta m (fun tm1 s1 m1 => ∀ x, RD F ((x, tm1) :: tmp) s1 tb m1 (fun tm2 s2 m2 => ∃ a b k, valS s2 tm1 = some a ∧ valS s2 tm2 = some b ∧ m2 = ob (catT a b) k ∧ ∀ c, K (.own (.f c)) s2 (k c)))) : RD F tmp s (tOp (rCatA Kf) ta tb) m K := fun σ H Q hh nf eo q =>
  h σ H _ hh nf eo fun tm1 s1 x H1 h2 h1 => h2 x σ H1 _ h1 nf eo fun tm2 s2 y H2 ⟨a, b, k, ea, eb, em, hk⟩ h3 => by
    obtain ⟨c, ec, em'⟩ := ob_cases (by rw [← em]; exact nf)
    obtain ⟨G, ω, h3⟩ := h3
    cases a <;> try (cases ec; done)
    cases b <;> try (cases ec; done)
    rename_i l l'
    simp only [catT] at ec
    split at ec
    · rename_i hz
      cases ec
      obtain ⟨p, vs, e1, g, z, r⟩ := h3.repTup h3.tm.2.1 ea
      obtain ⟨p', vs', e1', g', z', r'⟩ := h3.repTup h3.tm.1 eb
      refine ⟨p, p', vs, vs', e1, e1', .inl (.inl (h3.gH _ _ g)), .inl (.inl (h3.gH _ _ g')), by rw [← r.length, ← r'.length, sizeLine_eq]; omega, fun h0 => ?_, fun _ h0 => ?_, fun _ _ p2 np => ?_⟩
      · subst h0
        have e0 : l = [] := by cases l with | nil => rfl | cons _ _ => have := r.length; simp at this
        subst e0
        exact q _ s2 _ _ (by rw [em, em']; exact hk _) ⟨G, ω, h3.pop.pop.pushF (d := .tup _) ⟨p', vs', rfl, g', z', r'⟩⟩
      · subst h0
        have e0 : l' = [] := by cases l' with | nil => rfl | cons _ _ => have := r'.length; simp at this
        subst e0
        refine q _ s2 _ _ (by rw [em, em']; exact hk _) ⟨G, ω, h3.pop.pop.pushF (d := .tup _) (by rw [List.append_nil]; exact ⟨p, vs, rfl, g, z, r⟩)⟩
      · exact q _ s2 _ _ (by rw [em, em']; exact hk _) (h3.pop.pop.newT np (by rw [List.length_append, sizeLine_eq]; omega) (r.append r'))
    · cases ec
theorem ri_tup {K : Ki R} (h : RD F tmp s ta m (fun tm s1 m1 => ∃ d k, valS s1 tm = some d ∧ m1 = ob (asTup d) k ∧ ∀ ds v, K [(v, tm)] (fun s => valS s tm = valS s1 tm) id ds s1 (k ds))) : RI F tmp s m (iTup Kf ta) K := fun σ H Q hh nf eo q =>
  h σ H _ hh nf eo fun tm s1 x H1 ⟨d, k, ea0, em, hk0⟩ h1 => by
    obtain ⟨ds, ed, em'⟩ := ob_cases (by rw [← em]; exact nf)
    have ea : valS s1 tm = some (.tup ds) := by rw [ea0]; cases d <;> first | (cases ed; rfl) | cases ed
    have hk := hk0 ds
    rw [← em', ← em] at hk
    have at_ : ∀ (pre : Tmp) s σ H, valS s tm = some (.tup ds) → Holds F (pre ++ ([(x, tm)] ++ tmp)) s σ H → ∃ a vs G ω, x = .ref a ∧ H a = some (.tup vs) ∧ Hd F G ω (pre ++ ([(x, tm)] ++ tmp)) s σ H ∧ Reps G ds vs ∧ ds.length ≤ sizeLine := fun pre s σ H e ⟨G, ω, h⟩ => by
      obtain ⟨a, vs, e1, g, z, r⟩ := h.repTup (Tms.at (tm := tm) (tmp := tmp) pre h.tm) e
      exact ⟨a, vs, G, ω, e1, h.gH _ _ g, h, r, z⟩
    have hp' : ∀ {s : State}, valS s tm = valS s1 tm → valS s tm = some (.tup ds) := fun h => h.trans ea
    obtain ⟨a, vs, G, ω, e1, g, h2, r, z⟩ := at_ [] s1 σ H1 ea h1
    refine ⟨a, e1, ⟨vs, .inl (.inl g)⟩, q [(x, tm)] _ id ds s1 (Itt Kf a) H1 (hk x) ⟨fun pre s σ H _ h => h.dropMid pre, z, fun s σ H i hp hh hi => ?_, fun s σ H hp hh => ?_, fun pre s σ H i d y H' hp hh hd hy => ?_⟩ h1⟩
    · obtain ⟨a', vs', G', ω', e2, g2, _, r2, _⟩ := at_ [] s σ H (hp' hp) hh
      rw [e1] at e2; cases e2
      have hl : i < vs'.length := by rw [← r2.length]; exact hi
      exact ⟨vs', vs'[i], .inl (.inl g2), by simp [hl]⟩
    · obtain ⟨a', vs', G', ω', e2, g2, _, r2, _⟩ := at_ [] s σ H (hp' hp) hh
      rw [e1] at e2; cases e2
      exact ⟨vs', .inl (.inl g2), by rw [r2.length]; exact Nat.le_refl _⟩
    · obtain ⟨a', vs', G', ω', e2, g2, h3, r2, _⟩ := at_ pre s σ H (hp' hp) hh
      rw [e1] at e2; cases e2
      obtain ⟨rfl, hy⟩ := hy
      have hy := hy vs' (.inl (.inl g2))
      obtain ⟨w, w1, w2⟩ := r2.get hd
      rw [hy] at w1; cases w1
      exact ⟨G', ω', h3.pushF w2⟩
end
end VL

namespace L2
open PySem PySem.Spec PyProof.Rows
section
variable {X : Cx} {pins : List (Addr × Obj)} {σ : L2.St}
end
end L2
namespace VL
open PySem L2
variable [EC]
section
variable {R : Type} {F : Fc} {tmp : Tmp} {s : State} {m : Res R} {K : Rs R} {N : Rn R} {Rt : Rr R} {ta tb : TE} {Kf : PySem.W.Frag}
end
end VL
namespace VL
open PySem L2
section
variable {X : Cx} {Kf : PySem.W.Frag}
theorem sl_tupAK (hK : X.K = Kf) : SlR X (rSlA Kf) := hK ▸ sl_tupA
theorem op_catAK (hK : X.K = Kf) : OpR X (binaryOp .Add) (rCatA Kf) := hK ▸ op_catA
theorem pi_tupK {tg l : Expr} {tl : TE} (hK : X.K = Kf) (hl : PE X l tl) : PI X tg l (iTup Kf tl) := hK ▸ pi_tup hl
end
end VL

namespace VL
open PySem L2
section
variable {X : Cx} {pins : List (Addr × Obj)} {σ : L2.St} {H : Hp} {s : Shared} {d : Addr} {kvs : List (Key × V)}
end
variable [EC]
section
variable {F : Fc} {G H : Hp} {ω : Addr → Option Lab} {tmp : Tmp} {s : State} {σ : L2.St} {v : V}
end
section
variable {R : Type} {F : Fc} {tmp : Tmp} {s : State} {m : Res R} {K : Rs R} {ta td : TE}
end
end VL

namespace VL
open PySem L2
variable [EC]
section
variable {R : Type} {F : Fc} {tmp : Tmp} {s : State} {m : Res R} {K : Rs R} {N : Rn R} {Rt : Rr R} {te ti tj tn : TE} {Kf : PySem.W.Frag}
end
end VL

namespace VL
open PySem L2 PySem.W PyProof.Rows
variable [EC]
/-! sorted, list, len of a dict -/
section
variable {X : Cx} {pins : List (Addr × Obj)} {σ : List (Option V)} {H : Hp} {s : Shared}
end
section
variable {R : Type} {F : Fc} {tmp : Tmp} {s : State} {m : Res R}
end
end VL

namespace VL
open PySem L2
/-! walks over own dicts; xs[::-1]; range with three arguments -/
variable [EC]
section
variable {F : Fc} {G H : Hp} {ω : Addr → Option Lab} {tmp : Tmp} {s : State} {σ : L2.St} {v : V}
end
section
variable {R : Type} {F : Fc} {tmp : Tmp} {s : State} {m : Res R} {K : Rs R} {N : Rn R} {Rt : Rr R} {ta tb tc td : TE} {Kf : PySem.W.Frag}
end
end VL

namespace VL
open PySem L2
variable [EC]
/-! list(range(..)), max of a list, isinstance of two builtin classes, displays of constants -/
section
variable {R : Type} {F : Fc} {G H : Hp} {tmp : Tmp} {s : State} {m : Res R} {K : Rs R} {ta tb te : TE} {Kf : PySem.W.Frag}
end
/-! max(xs) -/
/-! isinstance(x, (A, B)) -/
section
variable {R : Type} {F : Fc} {G H : Hp} {tmp : Tmp} {s : State} {m : Res R} {K : Rs R} {ta tb te : TE} {Kf : PySem.W.Frag}
/-! a display of constant texts -/
end
end VL

namespace VL
open PySem L2 PySem.W PyProof.Rows
variable [EC]
/-! sorted(d.items()), dict(pairs) -/
section
variable {X : Cx} {pins : List (Addr × Obj)} {σ : List (Option V)} {H : Hp} {s : Shared}
end
section
variable {R : Type} {F : Fc} {tmp : Tmp} {s : State} {m : Res R} {td ta : TE} {Kf : PySem.W.Frag}
/-! dict(pairs) -/
end
/-! a told list, many times -/
end VL

namespace VL
open PySem L2 PySem.Spec PyProof.Rows
/-! None or a list of its own; str.strip(signs) -/
def optT : D → T | .lst ds => .l ds | d => .f d
def stripD : D → D → Option D
  | .str a, .str b => if a.length ≤ 16777216 then some (.str (Txt.stripChars (mkS a) (mkS b)).cps.toList) else none
  | _, _ => none
variable [EC]
section
variable {R : Type} {F : Fc} {tmp : Tmp} {s : State} {m : Res R} {N : Rn R} {Rt : Rr R} {K : Rs R}
end
section
variable {R : Type} {F : Fc} {tmp : Tmp} {s : State} {m : Res R} {to te : TE} {Kf : PySem.W.Frag} {K : Rs R}
theorem rd_strip (h : RD F tmp s to m (fun tm1 s1 m1 => ∃ d k, valS s1 tm1 = some d ∧ m1 = ob (asStr d) k ∧ ∀ l0 x, RD F ((x, tm1) :: tmp) s1 te (k l0) (fun tm2 s2 m2 => ∃ a b k, valS s2 tm1 = some a ∧ valS s2 tm2 = some b ∧ m2 = ob (stripD a b) k ∧ ∀ c, K (.own (.f c)) s2 (k c)))) :
    RD F tmp s (tBM Kf "str" (fun x xs H Q => ∃ a b, x = .str a ∧ xs = [.str b] ∧ a.length ≤ sizeLine ∧ Q (.str (Txt.stripChars a b)) H) to (tCons te tNil)) m K := fun σ H Q hh nf eo q =>
  h σ H _ hh nf eo fun tm1 s1 x H1 ⟨d, k0, e0, em0, h2⟩ h1 => by
    obtain ⟨l0, ed, em0'⟩ := ob_cases (by rw [← em0]; exact nf)
    rw [asStr_eq ed] at e0
    have ht : tyV Kf "str" x H1 := by
      obtain ⟨G, ω, h3⟩ := h1
      rw [show x = _ from h3.repC h3.tm.1 e0]
      rfl
    have h2' := h2 l0 x
    rw [← em0', ← em0] at h2'
    refine ⟨ht, h2' σ H1 _ h1 nf eo fun tm2 s2 y H2 ⟨a, b, k, ea, eb, em, hk⟩ h3 => ?_⟩
    obtain ⟨c, ec, em'⟩ := ob_cases (by rw [← em]; exact nf)
    have h5 := h3
    obtain ⟨G, ω, h4⟩ := h3
    have ra := h4.repC h4.tm.2.1 ea
    have rb := h4.repC h4.tm.1 eb
    cases a <;> try (cases ec; done)
    cases b <;> try (cases ec; done)
    rename_i x0 y0
    simp only [stripD] at ec
    split at ec
    · rename_i hx
      cases ec
      refine ⟨mkS x0, mkS y0, ra, by rw [show y = _ from rb], by rw [mkS_len, sizeLine_eq]; exact hx, ?_⟩
      refine q _ s2 _ _ (by rw [em, em']; exact hk _) ⟨G, ω, h4.pop.pop.pushF (d := .str _) ?_⟩
      show V.str _ = V.str _
      rw [mkS_of]
    · cases ec
end
end VL

namespace VL
open PySem L2 PySem.W PySem.Spec PyProof.Rows
/-! dicts of flat values compared -/
def flatV : D → Bool | .int _ => true | .str _ => true | _ => false
variable [EC]
end VL

namespace VL
open PySem L2 PySem.W PySem.Spec PyProof.Rows
/-! max(d.values()) of a dict of whole numbers, told or own -/
variable [EC]
section
variable {X : Cx} {o : Expr} {to : TE} {name : Str} {apos cpos : Pos} {id : String} {r : V → List V → Hp → VK → Prop}
end
section
variable {R : Type} {F : Fc} {tmp : Tmp} {s : State} {m : Res R} {td : TE} {K : Rs R}
end
end VL

namespace VL
open PySem L2
/-! own tuples: a mask tells which parts are lists of their own -/
def shL : List Bool → List D → List T
  | true :: ks, d :: ds => optT d :: shL ks ds
  | false :: ks, d :: ds => .f d :: shL ks ds
  | _, ds => ds.map T.f
def shT (ks : List Bool) : D → T | .tup ds => .tt (shL ks ds) | d => .f d
variable [EC]
section
variable {F : Fc} {tmp : Tmp} {s : State} {σ : St} {H : Hp} {v : V} {t : T}
end
section
variable {R : Type} {F : Fc} {tmp : Tmp} {s : State} {m : Res R} {K : Rs R} {N : Rn R} {Rt : Rr R} {ta tb te to ti : TE} {Kf : PySem.W.Frag}
/-- a display of owned things -/
theorem rd_tupO {t : TA} (h : RA F tmp s m t (fun tms s1 m1 => ∃ ts : List T, tms = ts.map TM.own ∧ ts.length ≤ 1000 ∧ K (.own (.tt ts)) s1 m1)) : RD F tmp s (tTup t) m K := fun σ H Q hh nf eo q =>
  h σ H _ hh nf eo fun tms s1 vs H1 ⟨ts, et, hz, hk⟩ hl h1 => by
    obtain ⟨G, ω, h2⟩ := h1
    obtain ⟨t0, args⟩ := Tms.args vs tms tmp hl h2.tm
    subst et
    have hlen : ts.length = vs.length := by rw [hl]; simp
    have z : ts.length ≤ sizeLine := by rw [sizeLine_eq]; omega
    refine ⟨by rw [← hlen]; exact z, fun p hp => ?_⟩
    have h3 : Hd F G (rl ω (phiDisp tmp.length)) tmp s1 σ H1 := h2.rl _ s1 σ tmp h2.len (fun i u e => by
      obtain ⟨v', e1, e2⟩ := h2.sl i u e
      exact ⟨v', e1, Own.rl e2 fun x => by simp [phiDisp]⟩) (Tms.rl tmp (fun j x hj => by simp [phiDisp, hj]) t0) h2.pn
    refine q _ s1 _ _ hk ⟨G, _, h3.newO hp ⟨p, vs, rfl, upd_same, by simp, z, Owns.of hlen fun j t v a b => ?_⟩⟩
    obtain ⟨w, w1, w2⟩ := args j (.own t) (by rw [List.getElem?_map, a]; rfl)
    rw [b] at w1; cases w1
    rw [Nat.zero_add]
    have hgt : ∀ x, phiDisp tmp.length ([1, tmp.length + j] ++ x) = some (([1, tmp.length] ++ [j]) ++ x) := fun x => by
      have h1 : ¬ tmp.length + j < tmp.length := by omega
      have h2 : tmp.length + j - tmp.length = j := by omega
      simp [phiDisp, h2]
    refine Own.move (Same.refl _) _ _ t v (fun a x e => ?_) w2
    obtain ⟨_, ⟨o, ho⟩, _⟩ := h2.wg a _ e
    have ne := ne_of_none ho hp
    exact ⟨upd_ne ne, by rw [if_neg ne]; exact rl_of e (hgt x)⟩
end
end VL

namespace VL
open PySem L2 PySem.Spec PyProof.Rows
/-! str.upper() -/
variable [EC]
section
variable {R : Type} {F : Fc} {tmp : Tmp} {s : State} {m : Res R} {to te : TE} {Kf : PySem.W.Frag} {K : Rs R}
end
end VL

namespace VL
open PySem L2
/-! == of a text and a thing of any kind -/
variable [EC]
end VL

namespace VL
open PySem L2 RZ
/-! zip of two lists or two tuples; `in` of a dict as a value -/
variable [EC]
section
variable {R : Type} {F : Fc} {tmp : Tmp} {s : State} {m : Res R} {ta tb ty td : TE} {K : Rs R}
end
end VL

namespace VL
open PySem L2
variable [EC]
/-! a list of its own put into a list of such -/
section
variable {F : Fc} {tmp : Tmp} {s1 : State} {σ : St} {H2 : Hp} {y : V} {t : T}
end
section
variable {R : Type} {F : Fc} {tmp : Tmp} {s : State} {m : Res R} {N : Rn R} {Rt : Rr R} {te ti : TE}
end
end VL

namespace VL
open PySem L2
/-! own dicts of own lists -/
variable [EC]
section
variable {F : Fc} {tmp : Tmp} {s : State} {σ : St} {H : Hp} {v : V} {t : T}
end
section
variable {R : Type} {F : Fc} {tmp : Tmp} {s : State} {m : Res R} {K : Rs R} {N : Rn R} {Rt : Rr R} {ta tb te tk ty tv td : TE} {Kf : PySem.W.Frag}
end
end VL

namespace VL
open PySem L2
/-! a list of pairs, each with a list of its own behind -/
variable [EC]
section
variable {F : Fc} {tmp : Tmp} {s : State} {σ : St} {H : Hp} {v : V} {t : T}
end
section
variable {R : Type} {F : Fc} {tmp : Tmp} {s : State} {m : Res R} {K : Rs R} {N : Rn R} {Rt : Rr R} {te ti : TE} {u : TS} {Kf : PySem.W.Frag}
end
end VL

namespace VL
open PySem L2
/-! the parts of an own tuple, read in place -/
variable [EC]
section
variable {F : Fc} {tmp : Tmp} {s : State} {σ : St} {H : Hp} {v : V} {t : T}
end
section
variable {R : Type} {F : Fc} {tmp : Tmp} {s : State} {m : Res R} {K : Rs R} {N : Rn R} {Rt : Rr R} {ta tb te to ti : TE} {Kf : PySem.W.Frag}
end
end VL

namespace VL
open PySem PySem.Spec PyProof.Rows L2
/-! e.replace(a, b) of written texts; behind len(..) a token is out -/
def PTT (X : Cx) (e : Expr) (t : TT) : Prop :=
  ∀ (pins : List (Addr × Obj)) (s : Shared) (σ : L2.St) (H : Hp) (Q : Bool → Hp → Prop), 1 ≤ s.toks → Inv X pins σ H s → t σ H Q → wpAny (model X.prog X.w) X.A (isTrue e X.env (eval e X.env)) (TP X pins σ Q) X.xe s
def PWT (X : Cx) (e : Expr) (t : TT) : Prop :=
  ∀ (whole : Sem Value) (pins : List (Addr × Obj)) (s : Shared) (σ : L2.St) (H : Hp) (Q : Bool → Hp → Prop), 1 ≤ s.toks → Inv X pins σ H s → t σ H Q → wpAny (model X.prog X.w) X.A (isTrue e X.env whole) (TP X pins σ Q) X.xe s
section
variable {X : Cx} {a b c e : Expr} {rest : List Expr} {ta tb te : TE} {tA tB : TT} {p pos : Pos}
end
variable [EC]
section
variable {R : Type} {F : Fc} {tmp : Tmp} {s : State} {m : Res R} {K : Rs R} {to : TE}
end
end VL

namespace VL
open PySem L2
variable [EC]
/-! x[e] as one of several targets -/
section
variable {R : Type} {F : Fc} {tmp : Tmp} {s : State} {m : Res R} {ti : TE}
end
end VL

namespace VL
open PySem L2
/-! own tuples with an own list of own lists in them -/
variable [EC]
section
variable {F : Fc} {tmp : Tmp} {s : State} {σ : St} {H : Hp} {v : V} {t : T}
end
section
variable {R : Type} {F : Fc} {tmp : Tmp} {s : State} {m : Res R} {K : Rs R} {N : Rn R} {Rt : Rr R} {ta tb te ti : TE} {Kf : PySem.W.Frag}
end
end VL

namespace VL
open PySem L2
variable [EC]
section
variable {R : Type} {F : Fc} {tmp : Tmp} {s : State} {m : Res R} {K : Rs R} {N : Rn R} {Rt : Rr R} {ta tb te ti : TE} {Kf : PySem.W.Frag}
end
end VL

namespace VL
open PySem L2
/-! reading in place: what is read is told of the heap as it stands -/
variable [EC]
section
variable {R : Type} {F : Fc} {tmp : Tmp} {s : State} {m : Res R} {K : Rs R} {N : Rn R} {Rt : Rr R} {ta tb te ti : TE} {Kf : PySem.W.Frag}
end
end VL

namespace VL
open PySem L2
/-! text.split(sep) -/
variable [EC]
section
variable {R : Type} {F : Fc} {tmp : Tmp} {s : State} {m : Res R} {to te : TE} {Kf : PySem.W.Frag} {K : Rs R}
end
end VL

namespace VL
open PySem PySem.Spec PyProof.Rows L2 SeqAt
/-! behind a written number a token is out: statements that replace may stand behind it -/
section
variable {X : Cx} {a b c e : Expr} {rest : List Expr} {sts : List Stmt} {ta tb te : TE} {tA tB tc : TT} {t u : TS} {p pos : Pos}
theorem PWT.of (h : PW X e tA) : PWT X e tA := fun wh pins s σ H Q _ I q => h.run wh pins s σ H Q I q
theorem PWT.pt (h : PWT X e tA) : PTT X e tA := fun pins s σ H Q h0 I q => h _ pins s σ H Q h0 I q
end
/-! a list compared with the empty one, whatever stands in it -/
def eqN (a b : D) : Option Bool := match b with | .lst [] => (match a with | .lst l => some l.isEmpty | _ => eqD a b) | _ => eqD a b
def neN (a b : D) : Option Bool := match b with | .lst [] => (match a with | .lst l => some (!l.isEmpty) | _ => neD a b) | _ => neD a b
theorem eqN_nil (l : List D) : eqN (.lst l) (.lst []) = some l.isEmpty := rfl
theorem neN_nil (l : List D) : neN (.lst l) (.lst []) = some (!l.isEmpty) := rfl
variable [EC]
def rEqN : R2 := fun x y H Q => rEqM x y H Q ∨ ∃ l, Rep H (.lst l) x ∧ Rep H (.lst []) y ∧ Q (.bl l.isEmpty) H
def rNeN : R2 := fun x y H Q => rNeM x y H Q ∨ ∃ l, Rep H (.lst l) x ∧ Rep H (.lst []) y ∧ Q (.bl (!l.isEmpty)) H
theorem op_eqN {X : Cx} (hu : X.A.units + 64 < cLine) : OpR X (compareOp .Eq) rEqN := by
  intro pins s σ H x y v u Q I rx ry h
  rcases h with h | ⟨l, ra, rb, q⟩
  · exact op_eqM hu pins s σ H x y v u Q I rx ry h
  · obtain ⟨a, vs, its, ea, eu, hl, v1, q1, n1⟩ := at_lst I ra rx
    obtain ⟨b, ws, its2, eb, ew, hm, v2, q2, n2⟩ := at_lst I rb ry
    subst eu; subst ew
    have h0 : its2.length = 0 := by simpa using n2.symm
    have hA : X.A.units < cLine := by omega
    cases l with
    | nil =>
      have h1 : its.length = 0 := by simpa using n1.symm
      have z := RcAt.lists (e := fun _ => true) hl hm (by simp [h0, h1]) hA fun j j1 _ => absurd j1 (by simp [h1])
      have z2 := z X.prog X.w X.xe (EP X pins σ Q) ⟨.bl _, H, I, rfl, by simpa [h1] using q⟩
      exact z2
    | cons c r =>
      have h1 : its.length = r.length + 1 := by simpa using n1.symm
      have z := RcAt.lists_lengths hl hm (by simp [h0, h1]) hA
      exact z X.prog X.w X.xe (EP X pins σ Q) ⟨.bl _, H, I, rfl, q⟩
theorem op_neN {X : Cx} (hu : X.A.units + 64 < cLine) : OpR X (compareOp .NotEq) rNeN := by
  intro pins s σ H x y v u Q I rx ry h
  rcases h with h | ⟨l, ra, rb, q⟩
  · exact op_neM hu pins s σ H x y v u Q I rx ry h
  · obtain ⟨a, vs, its, ea, eu, hl, v1, q1, n1⟩ := at_lst I ra rx
    obtain ⟨b, ws, its2, eb, ew, hm, v2, q2, n2⟩ := at_lst I rb ry
    subst eu; subst ew
    have h0 : its2.length = 0 := by simpa using n2.symm
    have hA : X.A.units < cLine := by omega
    cases l with
    | nil =>
      have h1 : its.length = 0 := by simpa using n1.symm
      have z := RcNeAt.lists (e := fun _ => true) hl hm (by simp [h0, h1]) hA fun j j1 _ => absurd j1 (by simp [h1])
      have z2 := z X.prog X.w X.xe (EP X pins σ Q) ⟨.bl _, H, I, rfl, by simpa [h1] using q⟩
      exact z2
    | cons c r =>
      have h1 : its.length = r.length + 1 := by simpa using n1.symm
      have z := RcNeAt.lists_lengths hl hm (by simp [h0, h1]) hA
      exact z X.prog X.w X.xe (EP X pins σ Q) ⟨.bl _, H, I, rfl, q⟩
theorem o_eqN : Op2B rEqN eqN := fun H x y a b c Q ra rb e q => by
  by_cases h : (∃ l, a = .lst l) ∧ b = .lst []
  · obtain ⟨⟨l, rfl⟩, rfl⟩ := h
    cases e
    exact .inr ⟨l, ra, rb, q⟩
  · have e2 : eqN a b = eqD a b := by
      unfold eqN
      split
      · split
        · exact absurd ⟨⟨_, rfl⟩, rfl⟩ h
        · rfl
      · rfl
    rw [e2] at e
    exact .inl (o_eq H x y a b c Q ra rb e q)
theorem o_neN : Op2B rNeN neN := fun H x y a b c Q ra rb e q => by
  by_cases h : (∃ l, a = .lst l) ∧ b = .lst []
  · obtain ⟨⟨l, rfl⟩, rfl⟩ := h
    cases e
    exact .inr ⟨l, ra, rb, q⟩
  · have e2 : neN a b = neD a b := by
      unfold neN
      split
      · split
        · exact absurd ⟨⟨_, rfl⟩, rfl⟩ h
        · rfl
      · rfl
    rw [e2] at e
    exact .inl (o_ne H x y a b c Q ra rb e q)
end VL

namespace VL
open PySem L2 PySem.SeqAt
/-! a text in a list of things of any kind, dicts too -/
section
variable {A : Around} {s : Shared}
theorem RcAt.dict_str {l : Addr} {o : Obj} {es : Array DictEntry} {n : Nat} (b : Str) (u : Tok) (ho : s.heap.get? l = some o) (hc : o.cls = .type "dict") (hd : o.data = .dict es n) (hu : A.units < cLine) : RcAt A s (.ref l) (.str b u) false := fun prog w E Q h => by
  obtain ⟨cls, dd, data, sl⟩ := o
  simp only at hc hd
  subst hc hd
  have ht : s.TypeIs (.ref l) "dict" := ⟨_, ho, rfl⟩
  exact rc_eq_decline_or (k := false) ht (typeIs_str s b u) (by decide) PySem.F.sub_str_dict PySem.F.slot_dict_eq PySem.F.slot_str_eq_refl
    (fun _ hq => dict_declines ht (typeIs_str s b u) PySem.F.sub_str_dict hq)
    (fun _ hq => call_meets PySem.F.slot_str_eq (typeIs_str s b u) PySem.F.entry_str_eq (PySem.F.args_str_eq_2 _ _) (str_eq_declines_dict b u l (.type "dict") es n dd sl) ⟨ho, hq⟩)
    (fun _ hq => wpAny_of_eq (rfl : isSame (.ref l) (.str b u) = pure false) hq) (.inr hu) h
theorem EqAt.dict_str {l : Addr} {o : Obj} {es : Array DictEntry} {n : Nat} (b : Str) (u : Tok) (ho : s.heap.get? l = some o) (hc : o.cls = .type "dict") (hd : o.data = .dict es n) (hu : A.units < cLine) : EqAt A s (.ref l) (.str b u) false := fun prog w E Q h => by
  unfold eqBool
  refine wpAny_holding ?_
  refine wpAny_ite_split (fun hab => absurd (eq_of_beq hab) nofun) (fun _ => ?_)
  exact wpAny_bind (RcAt.dict_str b u ho hc hd hu prog w E _ (wpAny_truthy_bool h))
end
variable [EC]
section
variable {X : Cx} {pins : List (Addr × Obj)} {σ : List (Option V)} {H : Hp} {s : Shared}
end
end VL

namespace VL
open PySem PySem.Spec PyProof.Rows L2 PySem.SeqAt
/-! dicts keyed by nested tuples: the heap's side -/
variable [EC]
section
variable {X : Cx} {pins : List (Addr × Obj)} {σ : List (Option V)} {H : Hp} {s : Shared}
mutual
theorem nested_of (I : Inv X pins σ H s) : ∀ (d : D) (k : NestedKey) (x : V) (u : Value), nkD d = some k → Rep H d x → RelV x u → NestedIs s.heap k u
  | .non, k, x, u, e, h, r => by
    cases e; cases (show x = .non from h); cases r; exact .none
  | .bl b, k, x, u, e, h, r => by
    cases e; cases (show x = .bl b from h); cases r; exact .bool rfl
  | .int i, k, x, u, e, h, r => by
    cases e; cases (show x = .int i from h); obtain ⟨t, rfl⟩ := r; exact .int _ _
  | .str y, k, x, u, e, h, r => by
    cases e; cases (show x = .str (mkS y) from h); obtain ⟨t, rfl⟩ := r; exact .text _ _
  | .tup l, k, x, u, e, h, r => by
    obtain ⟨a, vs, its, ea, eu, hl, v1, q1, n1⟩ := at_tup I h r
    subst eu
    simp only [nkD, Option.map_eq_some_iff] at e
    obtain ⟨ks, ek, rfl⟩ := e
    obtain ⟨o, ho, hc, n, hd⟩ := hl
    exact .tup ho hc hd (by simpa using nesteds_of I l ks vs its ek q1 v1)
  | .lst _, _, _, _, e, _, _ => by cases e
  | .dct _ _, _, _, _, e, _, _ => by cases e
  | .opq _, _, _, _, e, _, _ => by cases e
  | .exc _ _, _, _, _, e, _, _ => by cases e
  | .fd _ _ _, _, _, _, e, _, _ => by cases e
  | .fz _, _, _, _, e, _, _ => by cases e
theorem nesteds_of (I : Inv X pins σ H s) : ∀ (l : List D) (ks : List NestedKey) (xs : List V) (us : List Value), nkDs l = some ks → Reps H l xs → Vals xs us → NestedAll s.heap ks us
  | [], ks, xs, us, e, h, r => by
    cases e; cases (show xs = [] from h); cases r; exact .nil
  | d :: l, ks, _, us, e, ⟨x, xs, ex, h, q⟩, r => by
    subst ex
    simp only [nkDs] at e
    cases e1 : nkD d with
    | none => rw [e1] at e; cases e
    | some k =>
      cases e2 : nkDs l with
      | none => rw [e1, e2] at e; cases e
      | some q2 =>
        rw [e1, e2] at e
        cases e
        cases r with
        | cons z1 v1 => exact .cons (nested_of I d k x _ e1 h z1) (nesteds_of I l q2 xs _ e2 q v1)
end
def KsOk (H : Hp) (xs : NX) : Prop := ∀ x ∈ xs, ∃ d, nkD d = some x.1 ∧ x.1.depth ≤ 8 ∧ Rep H d (.ref x.2.1)
/-- at a stands a dict with these keys and values -/
structure NDok (w : World) (H : Hp) (a : Addr) (ep : Nat) (xs : NX) : Prop where
  at_ : H a = some (exN w a ep xs)
  g : NDg a xs
  ks : KsOk H xs
def NKey (H : Hp) (k : NestedKey) (y : V) (b : Addr) : Prop := ∃ d, nkD d = some k ∧ k.depth ≤ 8 ∧ y = .ref b ∧ Rep H d y
theorem NKey.is {k : NestedKey} {y : V} {b : Addr} {u : Value} (I : Inv X pins σ H s) (h : NKey H k y b) (r : RelV y u) : u = .ref b ∧ (nestedKind X.prog X.w).is s.heap k b := by
  obtain ⟨d, e, dp, rfl, rep⟩ := h
  have : u = .ref b := by cases r; rfl
  subst this
  exact ⟨rfl, nested_of I d k _ _ e rep r, dp⟩
theorem NDok.raw (I : Inv X pins σ H s) {a : Addr} {ep : Nat} {xs : NX} (h : H a = some (exN X.w a ep xs)) : ∃ o es, s.heap.get? a = some o ∧ o.ExactDict ∧ o.data = .dict es ep ∧ es.toList = xs.map fun x => (⟨x.1.hash X.w, .ref x.2.1, x.2.2⟩ : DictEntry) := by
  have q : (∃ o es, s.heap.get? a = some o ∧ o.ExactDict ∧ o.data = .dict es ep ∧ es.toList = xs.map fun x => (⟨x.1.hash X.w, .ref x.2.1, x.2.2⟩ : DictEntry)) ∧ _ := I.hok a _ h
  exact q.1
theorem NDok.of (I : Inv X pins σ H s) {a : Addr} {ep : Nat} {xs : NX} (h : NDok X.w H a ep xs) : s.heap.DictOfH (nestedKind X.prog X.w) a xs := by
  obtain ⟨o, es, h1, h2, h3, h4⟩ := NDok.raw I h.at_
  refine ⟨o, es, ep, h1, h2, h3, h4, fun x hx => ?_, h.g.1⟩
  obtain ⟨d, e, dp, rep⟩ := h.ks x hx
  exact ⟨nested_of I d _ _ (.ref x.2.1) e rep rfl, dp⟩
/-! terms -/
end
/-! the walk over the keys -/
section
variable {P : Program} {w : World} {K : PySem.W.Frag} {tg : Expr} {a : Addr} {ep : Nat} {xs : NX}
end
end VL

namespace VL
open PySem L2
/-! dicts keyed by nested tuples: the rules -/
variable [EC]
section
variable {G H : Hp} {d c : D} {kk : NestedKey}
theorem repX_len : ∀ {l : List (D × D)} {xs : NX}, RepX G l xs → l.length = xs.length
  | [], _, h => by cases (show _ = [] from h); rfl
  | (k, d) :: ds, _, ⟨kk, b, u, x, r, e, _, _, _, _, _, q⟩ => by subst e; simp [repX_len q]
end
section
variable {R : Type} {F : Fc} {tmp : Tmp} {s : State} {m : Res R} {K : Rs R} {N : Rn R} {Rt : Rr R} {ta tb te to td ty tv tx : TE} {Kf : PySem.W.Frag}
end
end VL

namespace VL
open PySem L2
/-! isinstance(x, (A, B, ..)), own classes of refusals -/
variable [EC]
section
variable {R : Type} {F : Fc} {tmp : Tmp} {s : State} {m : Res R} {K : Rs R} {ta : TE} {Kf : PySem.W.Frag}
end
end VL

namespace VL
open PySem L2 PyProof.Rows
/-! x.remove(text) -/
section
variable {X : Cx}
end
variable [EC]
section
variable {R : Type} {F : Fc} {tmp : Tmp} {s : State} {m : Res R} {K : Rs R} {N : Rn R} {Rt : Rr R} {ta te : TE} {Kf : PySem.W.Frag}
end
/-! the parts of an own tuple become own -/
def relab (k n : Nat) : Lab → Option Lab
  | 1 :: j :: r => if j = k then (match r with | i :: r' => if i < n then some (1 :: (k + (n - 1 - i)) :: r') else none | [] => none) else some (1 :: j :: r)
  | l => some l
section
variable {F : Fc} {G H : Hp} {ω : Addr → Option Lab} {tmp : Tmp} {s : State} {σ : L2.St} {v : V}
theorem Hd.split {ts : List T} (h : Hd F G ω ((v, .own (.tt ts)) :: tmp) s σ H) : ∃ a xs ω', v = .ref a ∧ H a = some (.tup xs) ∧ xs.length = ts.length ∧ Hd F G ω' (xs.zip (ts.map TM.own) ++ tmp) s σ H := by
  obtain ⟨a, xs, e, ha, hw, z, r⟩ := h.tm.1
  have hp := h.pop
  let ω' : Addr → Option Lab := fun b => (ω b).bind (relab tmp.length ts.length)
  have back : ∀ b p, ω' b = some p → ∃ p', ω b = some p' := fun b p e => by
    cases e2 : ω b with
    | none => simp [ω', e2] at e
    | some p' => exact ⟨p', rfl⟩
  have low : ∀ j, j < tmp.length → ∀ b x, ω b = some ([1, j] ++ x) → H b = H b ∧ ω' b = some ([1, j] ++ x) := fun j hj b x e => by
    refine ⟨rfl, ?_⟩
    simp only [ω', e, Option.bind_some]
    show relab tmp.length ts.length (1 :: j :: x) = _
    simp only [relab]
    rw [if_neg (by omega)]; rfl
  have xl : ∀ (ts : List T) (xs : List V) (i : Nat) (p : Lab), Owns G H ω p i ts xs → xs.length = ts.length := by
    intro ts
    induction ts with
    | nil => intro xs i p h; cases (show xs = [] from h); rfl
    | cons t r ih => intro xs i p ⟨v, q, e, h1, h2⟩; subst e; simp [ih q _ _ h2]
  refine ⟨a, xs, ω', e, ha, xl _ _ _ _ r, ⟨hp.g0, hp.gH, hp.gn, hp.fr, hp.ex, fun b p e => ?_, hp.len, fun i t e => ?_, ?_, hp.pn⟩⟩
  · obtain ⟨p', e'⟩ := back b p e
    exact hp.wg b p' e'
  · obtain ⟨v', e1, e2⟩ := hp.sl i t e
    refine ⟨v', e1, Own.move (Same.refl G) _ _ t v' (fun b x e => ⟨rfl, ?_⟩) e2⟩
    simp only [ω', e, Option.bind_some]
    rfl
  · have key : ∀ (us : List T) (ys : List V) (i : Nat), i + us.length = ts.length → Owns G H ω [1, tmp.length] i us ys → Tms G H ω' σ (ys.zip (us.map TM.own) ++ tmp) := by
      intro us
      induction us with
      | nil =>
        intro ys i _ h
        cases (show ys = [] from h)
        exact Tms.move (Same.refl G) tmp (fun j b x hj e => low j hj b x e) hp.tm
      | cons t r ih =>
        intro ys i hi ⟨v, q, e, h1, h2⟩
        subst e
        simp only [List.length_cons] at hi
        refine ⟨?_, ih q (i + 1) (by omega) h2⟩
        have hq := xl _ _ _ _ h2
        have hlen : (q.zip (r.map TM.own) ++ tmp).length = tmp.length + (ts.length - 1 - i) := by simp [hq]; omega
        show Own G H ω' [1, (q.zip (r.map TM.own) ++ tmp).length] t v
        rw [hlen]
        refine Own.move (Same.refl G) ([1, tmp.length] ++ [i]) _ t v (fun b x e => ⟨rfl, ?_⟩) h1
        simp only [ω', e, Option.bind_some]
        show relab tmp.length ts.length (1 :: tmp.length :: i :: x) = _
        simp only [relab, if_true]
        rw [if_pos (by omega)]; rfl
    exact key ts xs 0 (by simp) r
end
def gNames : List Nat → TGs
  | [] => gNil
  | i :: r => gCons (gName i) (gNames r)
def setAll : State → List Nat → List T → State
  | s, i :: is, t :: ts => setAll (s.set i (some t)) is ts
  | s, _, _ => s
def lstOf : D → List D | .lst l => l | _ => []
def tmI : List Bool → Nat → List D → List T
  | [], _, _ => []
  | true :: r, n, ds => .l (lstOf (ds.getD n .non)) :: tmI r (n + 1) ds
  | false :: r, n, ds => .f (ds.getD n .non) :: tmI r (n + 1) ds
def lstAt : List Bool → List D → Bool
  | [], [] => true
  | true :: r, .lst _ :: ds => lstAt r ds
  | false :: r, _ :: ds => lstAt r ds
  | _, _ => false
def partsO (ks : List Bool) : D → Option (List D) | .tup ds => if lstAt ks ds = true then some ds else none | _ => none
theorem tmI_eq : ∀ (ks : List Bool) (pre ds : List D), lstAt ks ds = true → shL ks ds = tmI ks pre.length (pre ++ ds)
  | [], pre, [], _ => rfl
  | [], _, _ :: _, h => by cases h
  | true :: r, pre, [], h => by cases h
  | false :: r, pre, [], h => by cases h
  | true :: r, pre, d :: ds, h => by
    cases d <;> try (cases h; done)
    rename_i l
    have ih := tmI_eq r (pre ++ [.lst l]) ds h
    show T.l l :: shL r ds = T.l (lstOf ((pre ++ .lst l :: ds).getD pre.length .non)) :: tmI r (pre.length + 1) (pre ++ .lst l :: ds)
    rw [ih]
    simp [List.getD_eq_getElem?_getD, lstOf]
  | false :: r, pre, d :: ds, h => by
    have ih := tmI_eq r (pre ++ [d]) ds h
    show T.f d :: shL r ds = T.f ((pre ++ d :: ds).getD pre.length .non) :: tmI r (pre.length + 1) (pre ++ d :: ds)
    rw [ih]
    simp [List.getD_eq_getElem?_getD]
theorem tmI_len : ∀ (ks : List Bool) (n : Nat) (ds : List D), (tmI ks n ds).length = ks.length
  | [], _, _ => rfl
  | true :: r, n, ds => by simp [tmI, tmI_len r]
  | false :: r, n, ds => by simp [tmI, tmI_len r]
section
variable {R : Type} {F : Fc} {tmp : Tmp} {s : State} {m : Res R} {K : Rs R} {N : Rn R} {Rt : Rr R} {ta te : TE} {Kf : PySem.W.Frag}
theorem names_run : ∀ (is : List Nat) (ts : List T) (xs : List V) (s : State) (σ : L2.St) (H : Hp) (Q : L2.St → Hp → Prop), xs.length = ts.length → is.length = ts.length → (∀ i ∈ is, i < s.length ∧ noAli i tmp = true ∧ F.pv i = none) →
    Holds F (xs.zip (ts.map TM.own) ++ tmp) s σ H → (∀ σ', Holds F tmp (setAll s is ts) σ' H → Q σ' H) → gNames is xs σ H Q
  | [], [], [], s, σ, H, Q, _, _, _, hh, q => ⟨rfl, q σ hh⟩
  | [], [], _ :: _, _, _, _, _, e, _, _, _, _ => by simp at e
  | [], _ :: _, _, _, _, _, _, _, e, _, _, _ => by simp at e
  | _ :: _, [], _, _, _, _, _, _, e, _, _, _ => by simp at e
  | _ :: _, _ :: _, [], _, _, _, _, e, _, _, _, _ => by simp at e
  | i :: is, t :: ts, x :: xs, s, σ, H, Q, e1, e2, hi, hh, q => by
    obtain ⟨h1, h2, h3⟩ := hi i List.mem_cons_self
    have na2 : ∀ (xs : List V) (ts : List T), noAli i (xs.zip (ts.map TM.own) ++ tmp) = true := by
      intro xs
      induction xs with
      | nil => intro ts; exact h2
      | cons y q ih =>
        intro ts
        cases ts with
        | nil => exact h2
        | cons d' r' => exact ih r'
    have hs : Holds F (xs.zip (ts.map TM.own) ++ tmp) (s.set i (some t)) (σ.set i (some x)) H := Holds.store (tmp := xs.zip (ts.map TM.own) ++ tmp) hh h1 (na2 xs ts) h3
    refine ⟨x, xs, rfl, names_run is ts xs (s.set i (some t)) (σ.set i (some x)) H Q (by simpa using e1) (by simpa using e2) (fun j hj => ?_) hs q⟩
    obtain ⟨a, b⟩ := hi j (List.mem_cons_of_mem _ hj)
    exact ⟨by rw [List.length_set]; exact a, b⟩
theorem rs_asgO {n : Nat} (is : List Nat) (ks : List Bool) (hn : is.length = n) (hk : ks.length = n) (h : RD F tmp s te m (fun tm s1 m1 => ∃ r k, tm = .own (shT ks r) ∧ m1 = ob (partsO ks r) k ∧ (∀ i ∈ is, i < s1.length ∧ noAli i tmp = true ∧ F.pv i = none) ∧ ∀ ds, N (setAll s1 is (tmI ks 0 ds)) (k ds))) :
    RS F tmp s m (tAsg te (gTup Kf n (gNames is))) N Rt := fun σ H De hh nf eo nx rt =>
  h σ H _ hh nf eo fun tm s1 v H1 ⟨r, k, et, em, hi, hN⟩ h1 => by
    subst et
    obtain ⟨ds, ed, em'⟩ := ob_cases (by rw [← em]; exact nf)
    cases r <;> try (cases ed; done)
    rename_i l
    simp only [partsO] at ed
    split at ed
    case isFalse => cases ed
    rename_i hl
    cases ed
    have e0 : shT ks (.tup ds) = .tt (tmI ks 0 ds) := by
      show T.tt (shL ks ds) = _
      rw [tmI_eq ks [] ds hl]; rfl
    rw [e0] at h1
    obtain ⟨G, ω, h2⟩ := h1
    obtain ⟨a, xs, ω', e, ha, hx, h3⟩ := h2.split
    have hx2 : xs.length = n := by rw [hx, tmI_len, hk]
    exact ⟨a, xs, e, .inl (.inl ha), hx2, names_run is (tmI ks 0 ds) xs s1 σ H1 _ hx (by rw [tmI_len, hk, hn]) hi ⟨G, ω', h3⟩ fun σ' h4 => nx _ σ' H1 (by rw [em, em']; exact hN ds) h4⟩
end
end VL

namespace SSN
open PySem PySem.Spec PyProof.Rows SS
def ddp {α : Type} [BEq α] (l : List α) : List α := l.foldl step_dedup []
theorem ddp_snoc {α : Type} [BEq α] (l : List α) (x : α) : ddp (l ++ [x]) = step_dedup (ddp l) x := by simp [ddp]
theorem step_lenS {α : Type} [BEq α] (σ : List α) (v : α) : (step_dedup σ v).length = if σ.any (· == v) then σ.length else σ.length + 1 := by
  unfold step_dedup; split <;> simp
theorem step_anyS (σ : List Str) (v k : Str) : (step_dedup σ v).any (· == k) = (σ.any (· == k) || decide (k = v)) := by
  unfold step_dedup
  by_cases h : σ.any (· == v) = true
  · rw [if_pos h]
    by_cases e : k = v
    · subst e; rw [h]; simp
    · simp [e]
  · rw [if_neg h, List.any_append]
    by_cases e : k = v
    · subst e; simp
    · have hb : (v == k) = false := by simpa [beq_iff_eq] using (fun h' : v = k => e h'.symm)
      simp [hb, e]
theorem ddp_len {α : Type} [BEq α] (l : List α) : (ddp l).length ≤ l.length := by
  have key : ∀ (l σ : List α), (l.foldl step_dedup σ).length ≤ σ.length + l.length := by
    intro l
    induction l with
    | nil => intro σ; simp
    | cons x r ih =>
      intro σ
      have h1 := ih (step_dedup σ x)
      have h2 : (step_dedup σ x).length ≤ σ.length + 1 := by rw [step_lenS]; split <;> omega
      simp only [List.foldl_cons, List.length_cons]
      omega
  simpa [ddp] using key l []
section
variable {prog : Program} {w : World} {A : Around} {R : Result → Shared → Prop} {I : Addr} {fp wr : List Addr} {G : Array GenState → Array GenState → Prop} {n : Nat} {P : Nat → Value → Prop} {St : Nat → Shared → Prop}
theorem loopStrN (W : WalksS prog w A.in1 I fp wr G n P St) (S : Addr) (hSf : S ∉ fp) (xs : List Str) (hsz : xs.length = n) (hn1 : n ≤ 4000)
    (hval : ∀ i v, P i v → ∃ t, v = .str (xs.getD i Str.empty) t) :
    ∀ (k i : Nat) (s : Shared), n - i = k → i ≤ n → St i s →
      s.heap.SetOf (PySem.strKind prog w) S (fun k' => (ddp (xs.take i)).any (· == k')) (ddp (xs.take i)).length →
      (∀ s', Moved (S :: wr) G s s' → s'.heap.SetOf (PySem.strKind prog w) S (fun k' => (ddp (xs.take n)).any (· == k')) (ddp (xs.take n)).length → R (.ok (.ret .none)) s') →
      codeAny (model prog w) A (.builtin "set.update.loop" ⟨[.ref S, .ref I], []⟩) R s := by
  have hSw : S ∉ wr := fun h => hSf (W.sub _ h)
  have hsub : ∀ b ∈ wr, b ∈ S :: wr := fun b hb => List.mem_cons_of_mem _ hb
  intro k
  induction k with
  | zero =>
    intro i s hk hi hst hS hR
    have hin : i = n := by omega
    subst hin
    refine codeAny_builtin PyProof.Rows.F.entry_set_update_loop ?_
    rw [Around.under_plainId PyProof.Rows.F.plain_set_update_loop _]
    show wpAny _ A.in1 (pyNext (.ref I) >>= _) _ _ s
    refine wpAny_bind (W.done s _ _ hst fun s' hm => ?_)
    show wpAny _ A.in1 (ret Value.none) _ _ s'
    exact wpAny_pure (hR s' (hm.mono hsub) (by
      obtain ⟨o, es, ep, t, ho, rest⟩ := hS
      exact ⟨o, es, ep, t, hm.heap S _ hSw ho, rest⟩))
  | succ k ih =>
    intro i s hk hi hst hS hR
    have hlt : i < n := by omega
    refine codeAny_builtin PyProof.Rows.F.entry_set_update_loop ?_
    rw [Around.under_plainId PyProof.Rows.F.plain_set_update_loop _]
    show wpAny _ A.in1 (pyNext (.ref I) >>= _) _ _ s
    refine wpAny_bind (W.item i s _ _ hlt hst fun v s' hP hst' hm => ?_)
    obtain ⟨t, rfl⟩ := hval i v hP
    have hS' : s'.heap.SetOf (PySem.strKind prog w) S (fun k' => (ddp (xs.take i)).any (· == k')) (ddp (xs.take i)).length := by
      obtain ⟨o, es, ep, tb, ho, rest⟩ := hS
      exact ⟨o, es, ep, tb, hm.heap S _ hSw ho, rest⟩
    show wpAny _ A.in1 (holding [Value.str (xs.getD i Str.empty) t] (setAdd S (.str (xs.getD i Str.empty) t)) >>= _) _ _ s'
    refine wpAny_bind (wpAny_holding ?_)
    unfold setAdd
    refine wpAny_holding ?_
    refine wpAny_bind ((PySem.strKind prog w).pyHash (k := xs.getD i Str.empty) (strKind_is _ _ _ _) ?_)
    have hle := ddp_len (xs.take i)
    rw [List.length_take] at hle
    refine wpAny_setAddHashed_of (knd := PySem.strKind prog w) (s := { s' with toks := s'.toks + 1 }) (strKind_is _ _ _ _) rfl hS' (by unfold scanBound; omega) fun h' hsb hS2 => ?_
    have hSi : h'.SetOf (PySem.strKind prog w) S (fun k' => (ddp (xs.take (i + 1))).any (· == k')) (ddp (xs.take (i + 1))).length := by
      have e0 : xs.getD i Str.empty = xs[i]'(by omega) := by rw [List.getD_eq_getElem?_getD, List.getElem?_eq_getElem (by omega)]; rfl
      have e1 : ddp (xs.take (i + 1)) = step_dedup (ddp (xs.take i)) (xs.getD i Str.empty) := by
        rw [List.take_add_one, List.getElem?_eq_getElem (by omega), e0]
        exact ddp_snoc _ _
      exact SetOf_congr hS2 (fun k' => by rw [e1, step_anyS]) (by rw [e1, step_lenS])
    refine wpAny_pure ⟨plainId_quiet PyProof.Rows.F.plain_set_update_loop _, ih (i + 1) _ (by omega) hlt (W.frame _ s' _ _ hst' (Nat.le_succ _) fun b hb o e => ?_) hSi fun s'' hm'' hS'' => ?_⟩
    · rw [hsb.2 b (fun h : b = S => hSf (by rw [← h]; exact hb))]; exact e
    · refine hR s'' (Moved.trans W.gtrans ((hm.mono hsub).then_heap (Nat.le_succ _) fun b o hb e => ?_) hm'') hS''
      rw [hsb.2 b (fun h : b = S => hb (by rw [h]; exact List.mem_cons_self))]; exact e
end
section
variable {prog : Program} {w : World} {A : Around} {E : Value → Shared → Prop} {s : Shared}
set_option maxHeartbeats 3200000 in
theorem call_set_listSN {l : Addr} {items : Array Value} {xs : List Str} {Q : Value → Shared → Prop}
    (hh : A.handled = none) (hl : s.heap.IsList l items) (hi : PyProof.Rows.StrsAre items.toList xs) (hn1 : xs.length ≤ 4000)
    (h : ∀ (h' : Heap) (tk : Nat), h'.SetOf (PySem.strKind prog w) s.heap.objs.size (fun k' => (ddp (xs.take items.size)).any (· == k')) (ddp (xs.take items.size)).length →
      (∀ b o, b < s.heap.objs.size → s.heap.get? b = some o → h'.get? b = some o) → Q (.ref s.heap.objs.size) { s with heap := h', toks := tk }) :
    wpAny (model prog w) A (call (.type "set") [.ref l]) Q E s := by
  obtain ⟨c, tl, hmro⟩ := PySem.F.called_set.mro
  have hmade := PySem.F.called_set.made
  have hsub := PySem.F.called_set.sub
  refine wpAny_call (codeAny_of_tree ?_)
  show wpAny _ _ (callAny (.type "set") _) _ _ _
  refine wpAny_pure ⟨Code.quiet_builtin _ (by decide +kernel), codeAny_builtin PySem.F.entry_type_call ?_⟩
  rw [Around.under_plain (weight_type_call_type "set" [.ref l] []) rfl]
  have h1 := PySem.F.called_set.notType
  have h2 := PySem.F.called_set.canCreate
  have hct := PySem.F.typeCall_set_1 (.ref l)
  repeat (any_goals (first | assumption | wp_step))

  refine codeAny_mono (code_set_new_1 (.ref l) (E := E) (Q₁ := fun obj s₁ => ∃ led : Bool, obj = .ref s.heap.objs.size ∧ s₁ = { s with heap := s.heap.push { cls := .type "set", dict := none, data := .set #[] 0 (.fresh 0 0 led) } }) fun led => ⟨led, rfl, rfl⟩) fun r s₁ hr => ?_
  cases r with
  | error e => exact hr
  | ok fl =>
    cases fl with
    | ret obj =>
      obtain ⟨led, rfl, rfl⟩ := hr
      have hS : (s.heap.push { cls := .type "set", dict := none, data := .set #[] 0 (.fresh 0 0 led) }).get? s.heap.objs.size = some { cls := .type "set", dict := none, data := .set #[] 0 (.fresh 0 0 led) } := Heap.get?_push_size _ rfl
      have hT : Shared.TypeIs { s with heap := s.heap.push { cls := .type "set", dict := none, data := .set #[] 0 (.fresh 0 0 led) } } (.ref s.heap.objs.size) "set" := ⟨_, hS, rfl⟩
      have hli := PySem.F.called_set.init.lookup
      have hbi := PySem.F.called_set.init.bind (.ref s.heap.objs.size)
      repeat (any_goals (first | assumption | wp_step))

      refine codeAny_mono (codeAny_call_builtin (R := wants (fun r s₂ => r = .none ∧ ∃ h' tk, s₂ = { s with heap := h', toks := tk } ∧
          h'.SetOf (PySem.strKind prog w) s.heap.objs.size (fun k' => (ddp (xs.take items.size)).any (· == k')) (ddp (xs.take items.size)).length ∧
          (∀ b o, b < s.heap.objs.size → s.heap.get? b = some o → h'.get? b = some o)) E) PySem.F.called_set.init.plain PySem.F.entry_set_init (check_set_init_1 hT ?_)) fun r₂ s₂ hr₂ => ?_
      · obtain ⟨ol, hol, hcl, nl, hdl⟩ := hl
        obtain ⟨ocls, odict, odata, oslots⟩ := ol
        simp only at hcl hdl
        subst hcl; subst hdl
        have hol' : (s.heap.push { cls := .type "set", dict := none, data := .set #[] 0 (.fresh 0 0 led) }).get? l = some { cls := .type "list", dict := odict, data := .seq items nl, slots := oslots } := Heap.get?_push_of_some _ hol
        have hsls := PySem.F.sub_list_set
        have hslf := PySem.F.sub_list_frozenset
        have hne : (Value.type "list" == Value.type "dict") = false := by decide
        have hl1 : (s.heap.push { cls := .type "set", dict := none, data := .set #[] 0 (.fresh 0 0 led) }).IsList l items := ⟨_, hol', rfl, nl, rfl⟩
        unfold Builtin.«set.__init__» noKeywords Builtin.Frozenset.updateFrom
        generalize hPI : pyIter = PI
        wp_walk
        subst hPI

        refine wpAny_pyIter_list hl1 ?_
        refine wpAny_bind (wpAny_runValue ?_)
        have hlS : l < s.heap.objs.size := Heap.lt_size hol
        have hh3 : A.in1.in1.in1.handled = none := by simp [hh]
        have hneI : l ≠ (s.heap.push { cls := .type "set", dict := none, data := .set #[] 0 (.fresh 0 0 led) }).objs.size := by
          rw [Heap.size_push]; exact Nat.ne_of_lt (Nat.lt_succ_of_lt hlS)
        have hSf : s.heap.objs.size ∉ [(s.heap.push { cls := .type "set", dict := none, data := .set #[] 0 (.fresh 0 0 led) }).objs.size, l] := by
          rw [Heap.size_push]; simp only [List.mem_cons, List.mem_singleton, List.not_mem_nil, or_false, not_or]
          exact ⟨Nat.ne_of_lt (Nat.lt_succ_self _), Nat.ne_of_gt hlS⟩
        have hsz : xs.length = items.size := by rw [← StrsAre.len_eq hi, Array.length_toList]
        have hval : ∀ (i : Nat) (v : Value), items[i]? = some v → ∃ t, v = .str (xs.getD i Str.empty) t := fun i v hv => strs_at hi i v (by rw [Array.getElem?_toList]; exact hv)
        refine loopStrN ((Walks.list hh3 _ l hneI items).toS) s.heap.objs.size
          hSf xs hsz (by rw [← hsz]; exact hn1) hval (items.size - 0) 0 _ (by omega) (Nat.zero_le _)
          ⟨⟨_, Heap.get?_push_size _ rfl, rfl, rfl⟩, (hl1.push _)⟩ ?hS0 ?hR
        case hS0 =>
          have hget : ((s.heap.push { cls := .type "set", dict := none, data := .set #[] 0 (.fresh 0 0 led) }).push { cls := .type "list_iterator", data := .fields #[.ref l, .int 0 0] }).get? s.heap.objs.size
              = some { cls := .type "set", dict := none, data := .set #[] 0 (.fresh 0 0 led) } := Heap.get?_push_of_some _ hS
          exact PyProof.Rows.SetOf_congr ((PyProof.Rows.setObjOf_fresh (knd := PySem.strKind prog w) led).setOf hget (by unfold scanBound; omega)) (fun _ => rfl) rfl
        case hR =>
          intro s' hm hS'
          obtain ⟨h', g', d', tk', os'⟩ := s'
          have eg : g' = s.gens := hm.gens
          have ed : d' = s.drawn := hm.drawn
          have eo : os' = s.os := hm.os
          subst eg; subst ed; subst eo
          show wpAny _ _ _ _ _ _
          refine wpAny_pure ?_
          show wpAny _ _ (ret Value.none) _ _ _
          refine wpAny_pure ⟨rfl, h', tk', rfl, hS', fun b o hb e => ?_⟩
          have hb1 : b ≠ s.heap.objs.size := Nat.ne_of_lt hb
          have hb2 : b ≠ (s.heap.push { cls := .type "set", dict := none, data := .set #[] 0 (.fresh 0 0 led) }).objs.size := by
            rw [Heap.size_push]; exact Nat.ne_of_lt (Nat.lt_succ_of_lt hb)
          exact hm.heap b o (by simp only [List.mem_cons, List.mem_singleton, List.not_mem_nil, or_false, not_or]; exact ⟨hb1, hb2⟩) (Heap.get?_push_of_some _ (Heap.get?_push_of_some _ e))

      · cases r₂ with
        | error e => exact hr₂
        | ok fl₂ =>
          cases fl₂ with
          | ret r =>
            obtain ⟨rfl, h', tk, rfl, hS', hk'⟩ := hr₂
            repeat (any_goals (first | assumption | wp_step))
            exact h _ _ hS' hk'
          | _ => exact hr₂.elim
    | _ => exact hr.elim

end
end SSN

namespace VL
open PySem L2 PySem.Spec PyProof.Rows SSN
def tLenSetN (K : PySem.W.Frag) (ta : TE) : TE := fun σ H Q => ta σ H fun x H1 => ∃ (l : Addr) (xs : List Str), x = .ref l ∧ SqL K H1 l (xs.map V.str) ∧ xs.length ≤ 4000 ∧ Q (.int ((ddp xs).length : Nat)) H1
theorem pe_lenSetN {X : Cx} {Kf : PySem.W.Frag} {a : Expr} {ta : TE} {p p2 q pos : Pos} (hK : X.K = Kf) (hc : X.calm = true) (hg : Gl X "len") (hm : X.mg "len" = none) (hg2 : Gl X "set") (hm2 : X.mg "set" = none) (ha : PE X a ta)
    (na : starEach [a] X.env = (false, eval a X.env) :: starEach [] X.env := by rfl) : PE X (.Call (.Name "len" p) [.Call (.Name "set" p2) [a] [] q] [] pos) (tLenSetN Kf ta) := by
  subst hK
  refine ⟨fun pins s σ H Q I h => ?_⟩
  refine Call_ (ld_blt I hg hm PySem.boot_len ?_)
  refine PyProof.Rows.callWith_builtin1 (PyProof.Rows.args_cons ?_ rfl) rfl rfl
  refine Call_ (ld_blt I hg2 hm2 PyProof.Rows.boot_set ?_)
  refine PyProof.Rows.callWith_type1 (PyProof.Rows.args_cons (thn (ha.run pins s σ H _ I h) fun v s1 ⟨x, H1, I1, r1, q1⟩ => PyProof.Rows.args_nil ?_) na) na rfl
  obtain ⟨l, xs, rfl, hq, h1, q1⟩ := q1
  cases r1
  obtain ⟨its, r, pl, hz⟩ := I1.list hq
  refine call_set_listSN (I1.ok.hd hc) pl.isList (by simpa using Vals.strs r) h1 fun h' tk hS hk => ?_
  refine PyProof.Rows.args_nil ?_
  have hl : its.toArray.size = xs.length := by rw [List.size_toArray, ← r.length, List.length_map]
  rw [hl, List.take_length] at hS
  have hd := ddp_len xs
  obtain ⟨o, es, ep, t, ho, hex, hdt, _, _, _, hf, hn⟩ := hS
  have I2 : Inv X pins σ H1 { s1 with heap := h', toks := tk } := I1.kept fun b o e => hk b o (Heap.lt_size e) e
  exact call_len_set ho hex hdt hf (by rw [hn] <;> omega) ⟨.int (ddp xs).length, H1, I2.tok _, ⟨_, by rw [hn]⟩, q1⟩
def lenSetD : D → Option D | .lst l => (match strsD l with | some ys => if ys.length ≤ 4000 then some (.int ((ddp ys).length : Nat)) else none | none => none) | _ => none
theorem any_map {α β : Type} [BEq α] [BEq β] (f : α → β) (hf : ∀ a b, (f a == f b) = (a == b)) : ∀ (l : List α) (x : α), (l.map f).any (· == f x) = l.any (· == x)
  | [], _ => rfl
  | a :: r, x => by simp only [List.map_cons, List.any_cons, hf, any_map f hf r x]
theorem ddp_map {α β : Type} [BEq α] [BEq β] (f : α → β) (hf : ∀ a b, (f a == f b) = (a == b)) (l : List α) : ddp (l.map f) = (ddp l).map f := by
  have key : ∀ (l σ : List α), (l.map f).foldl step_dedup (σ.map f) = (l.foldl step_dedup σ).map f := by
    intro l
    induction l with
    | nil => intro σ; rfl
    | cons x r ih =>
      intro σ
      simp only [List.map_cons, List.foldl_cons]
      rw [← ih]
      congr 1
      simp only [step_dedup, any_map f hf]
      split <;> simp
  simpa [ddp] using key l []
variable [EC]
theorem rd_lenSet {R : Type} {F : Fc} {tmp : Tmp} {s : State} {m : Res R} {K : Rs R} {ta : TE} {Kf : PySem.W.Frag}
    (h : RD F tmp s ta m (fun tm1 s1 m1 => ∃ a k, valS s1 tm1 = some a ∧ m1 = ob (lenSetD a) k ∧ ∀ c, K (.own (.f c)) s1 (k c))) : RD F tmp s (tLenSetN Kf ta) m K := fun σ H Q hh nf eo q =>
  h σ H _ hh nf eo fun tm1 s1 x H1 ⟨a, k, ea, em, hk⟩ h1 => by
    obtain ⟨c, ec, em'⟩ := ob_cases (by rw [← em]; exact nf)
    have h2 := h1
    obtain ⟨G, ω, h1⟩ := h1
    have r := h1.repC h1.tm.1 ea
    cases a <;> try (cases ec; done)
    rename_i l
    simp only [lenSetD] at ec
    cases e2 : strsD l with
    | none => rw [e2] at ec; cases ec
    | some ys =>
      rw [e2] at ec
      simp only at ec
      split at ec
      · rename_i hy
        cases ec
        obtain ⟨p, vs, e, g, z, rr⟩ := r
        subst e
        have hv := strs_ok e2 rr
        refine ⟨p, ys.map mkS, rfl, .inl (by rw [← hv]; exact g), by simpa using hy, ?_⟩
        rw [ddp_map mkS mkS_beq, List.length_map]
        exact q _ s1 _ H1 (by rw [em, em']; exact hk _) ⟨G, ω, h1.pop.pushF (d := .int _) rfl⟩
      · cases ec
end VL

namespace VL
open PySem PySem.Spec PyProof.Rows L2
/-! objects: the machine's side -/
section
variable {X : Cx}
end
/-! fields by names -/
variable [EC]
structure ObF (Kf : PySem.W.Frag) (k : Nat) (f : Str) : Prop where
  c : Cls Kf (EC.ec k)
  n : NoAttr Kf (EC.ec k) f
section
variable {F : Fc} {tmp : Tmp} {s : State} {σ : L2.St} {H : Hp} {v : V} {t : T}
end
section
variable {R : Type} {F : Fc} {tmp : Tmp} {s : State} {m : Res R} {K : Rs R} {N : Rn R} {Rt : Rr R} {ta tb te ti tv ty : TE} {Kf : PySem.W.Frag} {i k n : Nat} {ks : List Str} {ts : List T} {t : T} {f : Str}
end
end VL

namespace VL
open PySem PySem.Spec PyProof.Rows L2 PySem.SeqAt PySem.W
/-! dicts keyed by nested tuples: walked and kept, sorted, len -/
variable [EC]
section
variable {prog : Program} {w : World}
end
section
variable {X : Cx} {pins : List (Addr × Obj)} {σ : List (Option V)} {H : Hp} {s : Shared} {G : Hp}
/-! len -/
/-! sorted -/
end
/-! for k in d, d kept -/
section
variable {R : Type} {F : Fc} {tmp : Tmp} {s : State} {m : Res R}
theorem Holds.pin {σ : L2.St} {H : Hp} {i : Nat} {l : List (D × D)} (h : Holds F tmp s σ H) (hi : s[i]? = some (some (.dc true l))) : ∃ a ep xs, σ[i]? = some (some (.ref a)) ∧ H a = some (exN EC.wd a ep xs) ∧ (a == sysModules) = false ∧ l.length = xs.length ∧ Holds F ((.ref a, .ali i) :: tmp) (s.set i (some (.no ep xs l))) σ H := by
  obtain ⟨G, ω, h⟩ := h
  obtain ⟨v, e1, a, ep, xs, rfl, w, g1, g2, g3⟩ := h.sl i _ hi
  refine ⟨a, ep, xs, e1, g1, g2.2.2, repX_len g3, G, ω, { h with len := by rw [List.length_set]; exact h.len, sl := fun j t hj => ?_, tm := ⟨e1, h.tm⟩ }⟩
  by_cases e : i = j
  · subst e
    rw [List.getElem?_set_self (List.getElem?_eq_some_iff.mp hi).1] at hj
    cases hj
    exact ⟨.ref a, e1, a, rfl, w, g1, g2, g3⟩
  · rw [List.getElem?_set_ne e] at hj
    exact h.sl j t hj
end
end VL

set_option maxHeartbeats 1000000
/-! dict(pairs), the keys nested tuples; x or y of a list -/
namespace VL
open PySem PySem.Spec PyProof.Rows L2 PySem.SeqAt
variable [EC]
section
variable {X : Cx} {pins : List (Addr × Obj)} {σ : List (Option V)} {H : Hp} {s : Shared}
end
section
variable {R : Type} {F : Fc} {tmp : Tmp} {s : State} {m : Res R} {ta tb : TE} {Kf : PySem.W.Frag}
/-! x or y, x a list -/
/-! max of three -/
end
end VL

set_option maxHeartbeats 2000000
namespace VL
open PySem PySem.Spec PyProof.Rows L2 PySem.SeqAt
/-! == of two things that are the same, {} among their parts -/
mutual
def D.same : D → D → Bool
  | .non, .non => true
  | .bl a, .bl b => a == b
  | .int a, .int b => a == b
  | .str a, .str b => a == b
  | .tup l, .tup m => D.sames l m
  | .lst l, .lst m => D.sames l m
  | .dct false [], .dct false [] => true
  | _, _ => false
def D.sames : List D → List D → Bool
  | [], [] => true
  | a :: l, b :: m => D.same a b && D.sames l m
  | _, _ => false
end
def eqS (a b : D) : Option Bool := if D.same a b = true ∧ a.dep ≤ 60 then some true else eqD a b
mutual
def D.sameOk : D → Bool
  | .non => true
  | .bl _ => true
  | .int _ => true
  | .str _ => true
  | .tup l => D.samesOk l
  | .lst l => D.samesOk l
  | .dct k l => !k && l.isEmpty
  | .opq _ => false
  | .exc _ _ => false
  | .fd _ _ _ => false
  | .fz _ => false
def D.samesOk : List D → Bool
  | [] => true
  | a :: l => D.sameOk a && D.samesOk l
end
mutual
theorem same_eq : ∀ (a b : D), D.same a b = true → a = b ∧ D.sameOk a = true
  | .non, b, h => by cases b <;> simp [D.same, D.sameOk] at h ⊢
  | .bl i, b, h => by cases b <;> simp [D.same, D.sameOk] at h ⊢; exact h
  | .int i, b, h => by cases b <;> simp [D.same, D.sameOk] at h ⊢; exact h
  | .str i, b, h => by cases b <;> simp [D.same, D.sameOk] at h ⊢; exact h
  | .tup l, b, h => by
    cases b with
    | tup m =>
      have h : D.sames l m = true := by simpa [D.same] using h
      obtain ⟨e, o⟩ := sames_eq l m h
      exact ⟨by rw [e], by simpa [D.sameOk] using o⟩
    | _ => simp [D.same] at h
  | .lst l, b, h => by
    cases b with
    | lst m =>
      have h : D.sames l m = true := by simpa [D.same] using h
      obtain ⟨e, o⟩ := sames_eq l m h
      exact ⟨by rw [e], by simpa [D.sameOk] using o⟩
    | _ => simp [D.same] at h
  | .dct k l, b, h => by
    cases k with
    | true => cases b <;> simp [D.same] at h
    | false =>
      cases l with
      | cons _ _ => cases b <;> simp [D.same] at h
      | nil =>
        cases b with
        | dct k1 m =>
          cases k1 with
          | true => simp [D.same] at h
          | false =>
            cases m with
            | nil => exact ⟨rfl, rfl⟩
            | cons _ _ => simp [D.same] at h
        | _ => simp [D.same] at h
  | .opq _, b, h => by cases b <;> simp [D.same] at h
  | .exc _ _, b, h => by cases b <;> simp [D.same] at h
  | .fd _ _ _, b, h => by cases b <;> simp [D.same] at h
  | .fz _, b, h => by cases b <;> simp [D.same] at h
theorem sames_eq : ∀ (l m : List D), D.sames l m = true → l = m ∧ D.samesOk l = true
  | [], m, h => by cases m <;> simp [D.sames, D.samesOk] at h ⊢
  | a :: l, m, h => by
    cases m with
    | nil => simp [D.sames] at h
    | cons b m =>
      simp only [D.sames, Bool.and_eq_true] at h
      obtain ⟨e1, o1⟩ := same_eq a b h.1
      obtain ⟨e2, o2⟩ := sames_eq l m h.2
      exact ⟨by rw [e1, e2], by simp [D.samesOk, o1, o2]⟩
end
variable [EC]
section
variable {X : Cx} {pins : List (Addr × Obj)} {σ : List (Option V)} {H : Hp} {s : Shared}
theorem emp_at (I : Inv X pins σ H s) {x : V} {u : Value} (h : Rep H (.dct false []) x) (r : RelV x u) : ∃ a, u = .ref a ∧ (a == sysModules) = false ∧ ∀ (P : Program) (w : World), s.heap.DictOf (mixKind P w) a [] := by
  obtain ⟨a, kvs, e, hd, hk⟩ := h
  subst e
  cases r
  cases (show kvs = [] from hk)
  obtain ⟨_, za, va, Ka, da⟩ := dk_rd I.hok hd
  cases Ka
  refine ⟨a, rfl, za, fun P w => ?_⟩
  obtain ⟨o, es, ep, e1, e2, e3, e4, e5, e6⟩ := da
  have he : es.toList = [] := by
    generalize es.toList = l at e5
    cases e5; rfl
  have hes : es = #[] := by
    cases es
    simpa using he
  subst hes
  exact ⟨o, _, ep, e1, e2, e3, fun e he => (by simp at he), .nil, e6⟩
theorem emp_rc (I : Inv X pins σ H s) {A : Around} {x y : V} {u w : Value} (h : Rep H (.dct false []) x) (k : Rep H (.dct false []) y) (r1 : RelV x u) (r2 : RelV y w) (hu : A.units < cLine) : RcAt A s u w true := by
  obtain ⟨a, rfl, za, da⟩ := emp_at I h r1
  obtain ⟨b, rfl, zb, db⟩ := emp_at I k r2
  intro P wd E Q q
  exact PySem.W.rcP_dicts (knd := mixKind P wd) (r := true) za zb (da P wd) (db P wd) hu (fun _ => .nil) E Q q
mutual
theorem same_at (I : Inv X pins σ H s) : ∀ (a : D) (A : Around) (x y : V) (u w : Value), D.sameOk a = true → Rep H a x → Rep H a y → RelV x u → RelV y w → A.units + a.dep < cLine → EqAt A s u w true
  | .non, A, x, y, u, w, _, h, k, r1, r2, hu => by
    have := eqAt_d I .non .non A x y u w rfl rfl h k r1 r2 (by rw [Nat.min_self]; exact hu)
    rwa [eqv_refl .non rfl] at this
  | .bl i, A, x, y, u, w, _, h, k, r1, r2, hu => by
    have := eqAt_d I (.bl i) (.bl i) A x y u w rfl rfl h k r1 r2 (by rw [Nat.min_self]; exact hu)
    rwa [eqv_refl (.bl i) rfl] at this
  | .int i, A, x, y, u, w, _, h, k, r1, r2, hu => by
    have := eqAt_d I (.int i) (.int i) A x y u w rfl rfl h k r1 r2 (by rw [Nat.min_self]; exact hu)
    rwa [eqv_refl (.int i) rfl] at this
  | .str i, A, x, y, u, w, _, h, k, r1, r2, hu => by
    have := eqAt_d I (.str i) (.str i) A x y u w rfl rfl h k r1 r2 (by rw [Nat.min_self]; exact hu)
    rwa [eqv_refl (.str i) rfl] at this
  | .tup l, A, x, y, u, w, e, h, k, r1, r2, hu => by
    obtain ⟨a, vs, its, ea, eu, hl, v1, q1, n1⟩ := at_tup I h r1
    obtain ⟨b, ws, its2, eb, ew, hm, v2, q2, n2⟩ := at_tup I k r2
    subst eu ew
    have e : D.samesOk l = true := by simpa [D.sameOk] using e
    simp only [D.dep] at hu
    by_cases hab : a = b
    · subst hab; exact EqAt.same _
    have z := EqAt.of_refs hab (RcAt.tuples (e := fun _ => true) hl hm (show A.units < cLine by omega) fun j j1 j2 => same_ats I l A.in1 vs ws its its2 e q1 q2 v1 v2 (by rw [in1_units]; omega) j (by simpa using j1) (by simpa using j2))
    have hz : its.toArray.size = its2.toArray.size := by rw [List.size_toArray, List.size_toArray, ← n1, ← n2]
    rw [hz, beq_self_eq_true, Bool.and_true, show ((List.range (min its2.toArray.size its2.toArray.size)).all fun _ => true) = true from List.all_eq_true.mpr fun _ _ => rfl] at z
    exact z
  | .lst l, A, x, y, u, w, e, h, k, r1, r2, hu => by
    obtain ⟨a, vs, its, ea, eu, hl, v1, q1, n1⟩ := at_lst I h r1
    obtain ⟨b, ws, its2, eb, ew, hm, v2, q2, n2⟩ := at_lst I k r2
    subst eu ew
    have e : D.samesOk l = true := by simpa [D.sameOk] using e
    simp only [D.dep] at hu
    by_cases hab : a = b
    · subst hab; exact EqAt.same _
    have hz : its.length = its2.length := by rw [← n1, ← n2]
    have z := EqAt.of_refs hab (RcAt.lists (e := fun _ => true) hl hm (by simpa using hz) (show A.units < cLine by omega) fun j j1 j2 => same_ats I l A.in1 vs ws its its2 e q1 q2 v1 v2 (by rw [in1_units]; omega) j (by simpa using j1) (by simpa using j2))
    rw [show ((List.range its.toArray.size).all fun _ => true) = true from List.all_eq_true.mpr fun _ _ => rfl] at z
    exact z
  | .dct k0 l, A, x, y, u, w, e, h, k, r1, r2, hu => by
    have e : k0 = false ∧ l = [] := by simpa [D.sameOk] using e
    obtain ⟨rfl, rfl⟩ := e
    have z := emp_rc I (A := A) h k r1 r2 (by simp only [D.dep] at hu; omega)
    obtain ⟨a, rfl, _, _⟩ := emp_at I h r1
    obtain ⟨b, rfl, _, _⟩ := emp_at I k r2
    by_cases hab : a = b
    · subst hab; exact EqAt.same _
    · exact EqAt.of_refs hab z
  | .opq _, _, _, _, _, _, e, _, _, _, _, _ => by cases e
  | .exc _ _, _, _, _, _, _, e, _, _, _, _, _ => by cases e
  | .fd _ _ _, _, _, _, _, _, e, _, _, _, _, _ => by cases e
  | .fz _, _, _, _, _, _, e, _, _, _, _, _ => by cases e
theorem same_ats (I : Inv X pins σ H s) : ∀ (l : List D) (A : Around) (xs ys : List V) (us ws : List Value), D.samesOk l = true → Reps H l xs → Reps H l ys → Vals xs us → Vals ys ws → A.units + D.deps l < cLine →
    ∀ j (h1 : j < us.length) (h2 : j < ws.length), EqAt A s us[j] ws[j] true
  | [], _, _, _, _, _, _, h, _, v1, _, _, j, h1, _ => by
    cases (show _ = [] from h); cases v1; exact absurd h1 (Nat.not_lt_zero _)
  | a :: l, A, _, _, _, _, e, ⟨x, xs, e1, q1, r1⟩, ⟨y, ys, e2, q2, r2⟩, v1, v2, hu, j, h1, h2 => by
    subst e1; subst e2
    simp only [D.samesOk, Bool.and_eq_true] at e
    simp only [D.deps] at hu
    cases v1 with
    | cons z1 v1 =>
      cases v2 with
      | cons z2 v2 =>
        cases j with
        | zero => exact same_at I a A x y _ _ e.1 q1 q2 z1 z2 (by omega)
        | succ j => exact same_ats I l A xs ys _ _ e.2 r1 r2 v1 v2 (by omega) j (Nat.lt_of_succ_lt_succ h1) (Nat.lt_of_succ_lt_succ h2)
end
theorem same_rc (I : Inv X pins σ H s) (a : D) (A : Around) (x y : V) (u w : Value) (e : D.sameOk a = true) (h : Rep H a x) (k : Rep H a y) (r1 : RelV x u) (r2 : RelV y w) (hu : A.units + a.dep < cLine) : RcAt A s u w true := by
  have leaf : a.plain = true → RcAt A s u w true := fun pc => by
    have := rcEq_d I a a A x y u w pc pc h k r1 r2 (by rw [Nat.min_self]; exact hu)
    rwa [eqv_refl a pc] at this
  cases a with
  | non => exact leaf rfl
  | bl i => exact leaf rfl
  | int i => exact leaf rfl
  | str i => exact leaf rfl
  | tup l =>
    obtain ⟨a, vs, its, ea, eu, hl, v1, q1, n1⟩ := at_tup I h r1
    obtain ⟨b, ws, its2, eb, ew, hm, v2, q2, n2⟩ := at_tup I k r2
    subst eu ew
    have e : D.samesOk l = true := by simpa [D.sameOk] using e
    simp only [D.dep] at hu
    have z := RcAt.tuples (e := fun _ => true) hl hm (show A.units < cLine by omega) fun j j1 j2 => same_ats I l A.in1 vs ws its its2 e q1 q2 v1 v2 (by rw [in1_units]; omega) j (by simpa using j1) (by simpa using j2)
    have hz : its.toArray.size = its2.toArray.size := by rw [List.size_toArray, List.size_toArray, ← n1, ← n2]
    rw [hz, beq_self_eq_true, Bool.and_true, show ((List.range (min its2.toArray.size its2.toArray.size)).all fun _ => true) = true from List.all_eq_true.mpr fun _ _ => rfl] at z
    exact z
  | lst l =>
    obtain ⟨a, vs, its, ea, eu, hl, v1, q1, n1⟩ := at_lst I h r1
    obtain ⟨b, ws, its2, eb, ew, hm, v2, q2, n2⟩ := at_lst I k r2
    subst eu ew
    have e : D.samesOk l = true := by simpa [D.sameOk] using e
    simp only [D.dep] at hu
    have hz : its.length = its2.length := by rw [← n1, ← n2]
    have z := RcAt.lists (e := fun _ => true) hl hm (by simpa using hz) (show A.units < cLine by omega) fun j j1 j2 => same_ats I l A.in1 vs ws its its2 e q1 q2 v1 v2 (by rw [in1_units]; omega) j (by simpa using j1) (by simpa using j2)
    rw [show ((List.range its.toArray.size).all fun _ => true) = true from List.all_eq_true.mpr fun _ _ => rfl] at z
    exact z
  | dct k0 l =>
    have e : k0 = false ∧ l = [] := by simpa [D.sameOk] using e
    obtain ⟨rfl, rfl⟩ := e
    exact emp_rc I h k r1 r2 (by simp only [D.dep] at hu; omega)
  | opq _ => cases e
  | exc _ _ => cases e
  | fd _ _ _ => cases e
  | fz _ => cases e
end
def rEqS : R2 := fun x y H Q => rEqM x y H Q ∨ ∃ a b, Rep H a x ∧ Rep H b y ∧ D.same a b = true ∧ a.dep ≤ 60 ∧ Q (.bl true) H
theorem op_eqS {X : Cx} (hu : X.A.units + 64 < cLine) : OpR X (compareOp .Eq) rEqS := by
  intro pins s σ H x y v u Q I rx ry h
  rcases h with h | ⟨a, b, ha, hb, e, dp, q⟩
  · exact op_eqM hu pins s σ H x y v u Q I rx ry h
  · obtain ⟨rfl, e2⟩ := same_eq a b e
    exact same_rc I a X.A x y v u e2 ha hb rx ry (by omega) X.prog X.w X.xe _ ⟨.bl _, H, I, rfl, q⟩
theorem o_eqS : Op2B rEqS eqS := fun H x y a b c Q ra rb e q => by
  unfold eqS at e
  split at e
  · rename_i h
    cases e
    exact .inr ⟨a, b, ra, rb, h.1, h.2, q⟩
  · exact .inl (o_eq H x y a b c Q ra rb e q)
end VL

namespace VL
open PySem PySem.Spec PyProof.Rows L2 PySem.SeqAt
/-! == of a tuple of any things and the empty tuple, of a dict and a text -/
def eqG (a b : D) : Option Bool := match a, b with | .tup l, .tup [] => some l.isEmpty | .dct false _, .str _ => some false | _, _ => eqD a b
variable [EC]
def rEqG : R2 := fun x y H Q => rEqM x y H Q ∨ (∃ l, Rep H (.tup l) x ∧ Rep H (.tup []) y ∧ Q (.bl l.isEmpty) H) ∨ ∃ kv t, Rep H (.dct false kv) x ∧ Rep H (.str t) y ∧ Q (.bl false) H
theorem op_eqG {X : Cx} (hu : X.A.units + 64 < cLine) : OpR X (compareOp .Eq) rEqG := by
  intro pins s σ H x y v u Q I rx ry h
  rcases h with h | ⟨l, ra, rb, q⟩ | ⟨kv, t, ra, rb, q⟩
  · exact op_eqM hu pins s σ H x y v u Q I rx ry h
  · obtain ⟨a, vs, its, ea, eu, hl, v1, q1, n1⟩ := at_tup I ra rx
    obtain ⟨b, ws, its2, eb, ew, hm, v2, q2, n2⟩ := at_tup I rb ry
    subst eu; subst ew
    have h0 : its2.length = 0 := by simpa using n2.symm
    have hA : X.A.units < cLine := by omega
    have z := RcAt.tuples (e := fun _ => true) hl hm hA fun j _ j2 => absurd j2 (by simp [h0])
    have z2 := z X.prog X.w X.xe (EP X pins σ Q) ⟨.bl _, H, I, rfl, by
      have h1 : its.length = l.length := by simpa using n1.symm
      have e1 : its2.toArray.size = 0 := by simp [h0]
      have e2 : its.toArray.size = l.length := by simp [h1]
      rw [e1, e2]
      cases l with
      | nil => simpa using q
      | cons c r => simpa using q⟩
    exact z2
  · cases (show y = .str (mkS t) from rb)
    obtain ⟨tk, rfl⟩ := ry
    obtain ⟨p, kvs, ey, g, rk⟩ := ra
    subst ey
    cases rx
    obtain ⟨_, _, vs, _, o, es, ep, ho, hx, hd2, _⟩ := (show ObjOk X.prog X.w H s.heap p (.dK kvs) from rd_of I.hok g)
    exact RcAt.dict_str _ _ ho hx.1 hd2 (by omega) X.prog X.w X.xe _ ⟨.bl _, H, I, rfl, q⟩
theorem o_eqG : Op2B rEqG eqG := fun H x y a b c Q ra rb e q => by
  unfold eqG at e
  split at e
  · cases e
    exact .inr (.inl ⟨_, ra, rb, q⟩)
  · cases e
    exact .inr (.inr ⟨_, _, ra, rb, q⟩)
  · exact .inl (o_eq H x y a b c Q ra rb e q)
end VL

set_option maxHeartbeats 0
namespace SSN
end SSN
namespace W
open PySem PySem.Spec PyProof.Rows L2 VL
def topS (i : Nat) : Stmt := PySem.Challenge.pw_anydelay_k01_what_is_a_net.main.body.getD i (.Pass ⟨0, 0, 0, 0⟩)
abbrev q_abcdefghijklmnopqrstuvwxyz : List Nat := [97, 98, 99, 100, 101, 102, 103, 104, 105, 106, 107, 108, 109, 110, 111, 112, 113, 114, 115, 116, 117, 118, 119, 120, 121, 122]
theorem e_q_abcdefghijklmnopqrstuvwxyz : (PySem.Str.ofString "abcdefghijklmnopqrstuvwxyz") = mkS q_abcdefghijklmnopqrstuvwxyz := by decide +kernel
abbrev qx_ : List Nat := []
theorem e_qx_ : (PySem.Str.ofString "") = mkS qx_ := by decide +kernel
abbrev q_a : List Nat := [97]
theorem e_q_a : (PySem.Str.ofString "a") = mkS q_a := by decide +kernel
abbrev q_wire : List Nat := [119, 105, 114, 101]
theorem e_q_wire : (PySem.Str.ofString "wire") = mkS q_wire := by decide +kernel
abbrev q_not : List Nat := [110, 111, 116]
theorem e_q_not : (PySem.Str.ofString "not") = mkS q_not := by decide +kernel
abbrev q_and : List Nat := [97, 110, 100]
theorem e_q_and : (PySem.Str.ofString "and") = mkS q_and := by decide +kernel
abbrev q_or : List Nat := [111, 114]
theorem e_q_or : (PySem.Str.ofString "or") = mkS q_or := by decide +kernel
abbrev q_zzzzzzzz : List Nat := [122, 122, 122, 122, 122, 122, 122, 122]
theorem e_q_zzzzzzzz : (PySem.Str.ofString "zzzzzzzz") = mkS q_zzzzzzzz := by decide +kernel
abbrev q_in : List Nat := [105, 110]
theorem e_q_in : (PySem.Str.ofString "in") = mkS q_in := by decide +kernel
abbrev q_b : List Nat := [98]
theorem e_q_b : (PySem.Str.ofString "b") = mkS q_b := by decide +kernel
abbrev q_c : List Nat := [99]
theorem e_q_c : (PySem.Str.ofString "c") = mkS q_c := by decide +kernel
abbrev q_d : List Nat := [100]
theorem e_q_d : (PySem.Str.ofString "d") = mkS q_d := by decide +kernel
abbrev q_e : List Nat := [101]
theorem e_q_e : (PySem.Str.ofString "e") = mkS q_e := by decide +kernel
abbrev qn_13 : List Nat := [32, 33, 35, 36, 38, 39, 40, 41, 42, 43, 44, 45, 46, 47, 48, 49, 50, 51, 52, 53, 54, 55, 56, 57, 58, 59, 60, 61, 62, 63, 64, 65, 66, 67, 68, 69, 70, 71, 72, 73, 74, 75, 76, 77, 78, 79, 80, 81, 82, 83, 84, 85, 86, 87, 88, 89, 90, 91, 93, 94, 95, 96, 97, 98, 99, 100, 101, 102, 103, 104, 105, 106, 107, 108, 109, 110, 111, 112, 113, 114, 115, 116, 117, 118, 119, 120, 121, 122, 123, 124, 125, 126, 9, 10]
theorem e_qn_13 : (PySem.Str.ofString " !#$&'()*+,-./0123456789:;<=>?@ABCDEFGHIJKLMNOPQRSTUVWXYZ[]^_`abcdefghijklmnopqrstuvwxyz{|}~	\n") = mkS qn_13 := by decide +kernel
abbrev q_A : List Nat := [65]
theorem e_q_A : (PySem.Str.ofString "A") = mkS q_A := by decide +kernel
abbrev q_abcdefghi : List Nat := [97, 98, 99, 100, 101, 102, 103, 104, 105]
theorem e_q_abcdefghi : (PySem.Str.ofString "abcdefghi") = mkS q_abcdefghi := by decide +kernel
abbrev q_a1 : List Nat := [97, 49]
theorem e_q_a1 : (PySem.Str.ofString "a1") = mkS q_a1 := by decide +kernel
abbrev q_nope : List Nat := [110, 111, 112, 101]
theorem e_q_nope : (PySem.Str.ofString "nope") = mkS q_nope := by decide +kernel
abbrev q_xor : List Nat := [120, 111, 114]
theorem e_q_xor : (PySem.Str.ofString "xor") = mkS q_xor := by decide +kernel
abbrev q_new : List Nat := [110, 101, 119]
theorem e_q_new : (PySem.Str.ofString "new") = mkS q_new := by decide +kernel
abbrev q_more : List Nat := [109, 111, 114, 101]
theorem e_q_more : (PySem.Str.ofString "more") = mkS q_more := by decide +kernel
def m__law_deck (x_script : D) : Res ((List (List D) × D)) :=
  ob (lenD x_script) fun t6 => ob (minD (.int 63) t6) fun t5 => ob (maxD (.int 1) t5) fun t4 => ob (rngD (.int 0) t4) fun ds3 => rb (forN (Z := (List (List D))) ds3 ([] : List (List D)) fun z2 d1 => rb (ob (lenD x_script) fun t12 => ob (ltD d1 t12) fun t11 => if t11 = true then ob (ixD x_script d1) fun t13 => .ok t13 else .ok (.int 0) : Res D) fun z10 => ob (powD (.int 10) (.int 18)) fun t17 => ob (geD z10 t17) fun t16 => ob (intD (.bl t16)) fun t15 => ob (mulD (.int 31) d1) fun t18 => (if ((z2).map VL.T.l).length < 16777216 then .ok (z2 ++ [[z10, t15, t18]]) else .fail)) fun z2 => .ok (z2, (.int 0))
abbrev s__law_deck : Stmt := topS 12
theorem sc__law_deck : FnScope ["script", "pools", "k", "cell"] ["script"] (defScope s__law_deck) := ⟨rfl, rfl, rfl, by decide +kernel, rfl, by decide +kernel, by decide +kernel⟩
def m__law_draw (x_deck : (List (List D) × D)) (x_many : D) : Res (D × ((List (List D) × D))) :=
  ob (poolJ (x_deck).1.length (x_deck).2) fun j1 => ob (addD (x_deck).2 (.int 1)) fun t5 => (ob (ixD (.lst ((x_deck).1.getD j1 [])) (.int 1)) fun t8 => ob (eqD t8 (.int 1)) fun t7 => rb (if t7 = true then ob (ixD (.lst ((x_deck).1.getD j1 [])) (.int 0)) fun t10 => ob (gtD t10 (.int 0)) fun t9 => .ok (t9, ()) else .ok (false, ()) : Res (Bool × Unit)) fun p6 => if p6.1 = true then ob (ixD (.lst ((x_deck).1.getD j1 [])) (.int 0)) fun t12 => ob (modD t12 x_many) fun t11 => ob (ixD (.lst ((x_deck).1.getD j1 [])) (.int 0)) fun t15 => ob (fdivD t15 x_many) fun t14 => ob (setL ((x_deck).1.getD j1 []) (.int 0) t14) fun t13 => .ok (t11, (((x_deck).1).set j1 t13, t5)) else ob (ixD (.lst ((x_deck).1.getD j1 [])) (.int 2)) fun t18 => ob (addD t18 (.int 1)) fun t17 => ob (setL ((x_deck).1.getD j1 []) (.int 2) t17) fun t16 => ob (ixD (.lst t16) (.int 0)) fun t22 => ob (modD t22 (.int 99999999977)) fun t21 => ob (ixD (.lst t16) (.int 2)) fun t24 => ob (mulD (.int 700001) t24) fun t23 => ob (addD t21 t23) fun t20 => ob (modD t20 (.int 99999999947)) fun t19 => ob (mulD t19 t19) fun t26 => ob (modD t26 (.int 99999999821)) fun t25 => ob (addD t25 (.int 19)) fun t29 => ob (mulD t25 t29) fun t28 => ob (modD t28 (.int 9999999967)) fun t27 => ob (fdivD t27 (.int 13)) fun t31 => ob (modD t31 x_many) fun t30 => .ok (t30, (((x_deck).1).set j1 t16, t5)))
abbrev s__law_draw : Stmt := topS 13
theorem sc__law_draw : FnScope ["deck", "many", "pool", "number", "found"] ["deck", "many"] (defScope s__law_draw) := ⟨rfl, rfl, rfl, by decide +kernel, rfl, by decide +kernel, by decide +kernel⟩
def m__law_names (x_deck : (List (List D) × D)) (x_many : D) : Res ((List D) × ((List (List D) × D))) :=
  ob (asStr (.str qx_)) fun t2 => ob (rngD (.int 0) (.int 7)) fun ds6 => rb (fmS ds6 x_deck fun z4 d3 => rb (m__law_draw z4 (.int 26)) fun r8 => ob (ixD (.str q_abcdefghijklmnopqrstuvwxyz) r8.1) fun t7 => .ok (some t7, r8.2)) fun p5 => ob (joinD (.str qx_) (.lst p5.1)) fun t1 => ob (rngD (.int 0) x_many) fun ds11 => rb (forN (Z := (((List (List D) × D)) × (List D))) ds11 (p5.2, []) fun z10 d9 => rb (m__law_draw z10.1 (.int 4)) fun r12 => ob (asStr (.str qx_)) fun t14 => rb (m__law_draw r12.2 (.int 8)) fun r20 => ob (addD (.int 1) r20.1) fun t19 => ob (rngD (.int 0) t19) fun ds18 => rb (fmS ds18 r20.2 fun z16 d15 => rb (m__law_draw z16 (.int 26)) fun r22 => ob (ixD (.str q_abcdefghijklmnopqrstuvwxyz) r22.1) fun t21 => .ok (some t21, r22.2)) fun p17 => ob (joinD (.str qx_) (.lst p17.1)) fun t13 => rb (ob (eqD r12.1 (.int 0)) fun t31 => if t31 = true then rb (m__law_draw p17.2 (.int 8)) fun r35 => ob (asI r35.1) fun t34 => ob (slS none (some t34) t1) fun t33 => rb (m__law_draw r35.2 (.int 26)) fun r37 => ob (ixD (.str q_abcdefghijklmnopqrstuvwxyz) r37.1) fun t36 => ob (addD t33 t36) fun t32 => .ok (t32, r37.2) else .ok (t13, p17.2) : Res (D × ((List (List D) × D)))) fun z30 => rb (ob (eqD r12.1 (.int 1)) fun t60 => rb (if t60 = true then ob (neD (.lst z10.2) (.lst [])) fun t61 => .ok (t61, ()) else .ok (false, ()) : Res (Bool × Unit)) fun p59 => if p59.1 = true then ob (negD (.int 1)) fun t65 => ob (ixD (.lst z10.2) t65) fun t64 => ob (lenD t64) fun t63 => rb (m__law_draw z30.2 t63) fun r62 => ob (negD (.int 1)) fun t70 => ob (ixD (.lst z10.2) t70) fun t69 => ob (asI r62.1) fun t71 => ob (slS none (some t71) t69) fun t68 => rb (m__law_draw r62.2 (.int 26)) fun r73 => ob (ixD (.str q_abcdefghijklmnopqrstuvwxyz) r73.1) fun t72 => ob (addD t68 t72) fun t67 => ob (negD (.int 1)) fun t76 => ob (ixD (.lst z10.2) t76) fun t75 => ob (addD r62.1 (.int 1)) fun t78 => ob (asI t78) fun t77 => ob (slS (some t77) none t75) fun t74 => ob (addD t67 t74) fun t66 => .ok (r73.2, t66) else .ok (z30.2, z30.1) : Res (((List (List D) × D)) × D)) fun z58 => rb (ob (eqD r12.1 (.int 2)) fun t83 => if t83 = true then rb (m__law_draw z58.1 (.int 7)) fun r85 => ob (ixD (.lst [(.str q_a), (.str q_wire), (.str q_not), (.str q_and), (.str q_or), (.str q_zzzzzzzz), (.str q_in)]) r85.1) fun t84 => .ok (t84, r85.2) else .ok (z58.2, z58.1) : Res (D × ((List (List D) × D)))) fun z82 => rb (whileN (Z := (D × D)) FU (z82.1, (.int 0)) (fun z86 => ob (inD z86.1 (.lst z10.2)) fun t87 => .ok t87) fun z86 => ob (ixD (.str q_abcdefghijklmnopqrstuvwxyz) z86.2) fun t89 => ob (mulS t89 (.int 8)) fun t88 => ob (addD z86.2 (.int 1)) fun t90 => .ok (t88, t90)) fun z86 => ob (apL z10.2 z86.1) fun t91 => .ok (z82.2, t91)) fun z10 => .ok (z10.2, z10.1)
abbrev s__law_names : Stmt := topS 15
theorem sc__law_names : FnScope ["deck", "many", "letters", "stem", "found", "k", "way", "name", "turn", "at", "j"] ["deck", "many"] (defScope s__law_names) := ⟨rfl, rfl, rfl, by decide +kernel, rfl, by decide +kernel, by decide +kernel⟩
theorem blk__law_names_0 : BlkOk ["deck", "many", "letters", "stem", "found", "k", "way", "name", "turn", "at", "j"] (defScope s__law_names) { kind := PySem.ScopeKind.function, names := [ (PySem.Str.ofString ".0", PySem.NameKind.local), (PySem.Str.ofString "j", PySem.NameKind.local), (PySem.Str.ofString "_law_draw", PySem.NameKind.globalImplicit), (PySem.Str.ofString "deck", PySem.NameKind.free), (PySem.Str.ofString "letters", PySem.NameKind.free)], isGenerator := false, isCoroutine := false, more := [] : PySem.Scope } [("j", 10)] := ⟨rfl, by decide +kernel, by decide +kernel, by decide +kernel, by decide +kernel⟩
theorem blk__law_names_1 : BlkOk ["deck", "many", "letters", "stem", "found", "k", "way", "name", "turn", "at", "j"] (defScope s__law_names) { kind := PySem.ScopeKind.function, names := [ (PySem.Str.ofString ".0", PySem.NameKind.local), (PySem.Str.ofString "k", PySem.NameKind.local), (PySem.Str.ofString "_law_draw", PySem.NameKind.globalImplicit), (PySem.Str.ofString "deck", PySem.NameKind.free), (PySem.Str.ofString "letters", PySem.NameKind.free)], isGenerator := false, isCoroutine := false, more := [] : PySem.Scope } [("k", 5)] := ⟨rfl, by decide +kernel, by decide +kernel, by decide +kernel, by decide +kernel⟩
def m__law_held (x_one : D) (x_other : D) (x_own : D) : Res D :=
  .ok (.tup [(.str q_or), (.tup [(.str q_and), x_one, x_other]), (.tup [(.str q_and), x_own, (.tup [(.str q_or), x_one, x_other])])])
abbrev s__law_held : Stmt := topS 16
theorem sc__law_held : FnScope ["one", "other", "own"] ["one", "other", "own"] (defScope s__law_held) := ⟨rfl, rfl, rfl, by decide +kernel, rfl, by decide +kernel, by decide +kernel⟩
def m__law_known (x_deck : (List (List D) × D)) : Res (D × ((List (List D) × D))) :=
  rb (m__law_draw x_deck (.int 4)) fun r1 => ob (asLst (.lst [(.str q_a), (.str q_b), (.str q_c), (.str q_d), (.str q_e)])) fun ds4 => rb (fmR ds4 fun d2 => .ok (some (.tup [(.str q_wire), d2]))) fun ys3 => ob (unL 5 (.lst ys3)) fun p5 => (ob (eqD r1.1 (.int 0)) fun t6 => if t6 = true then rb (m__law_held (p5.getD 0 .non) (p5.getD 1 .non) (p5.getD 2 .non)) fun r7 => .ok ((.tup [(.lst [(.str q_a), (.str q_b)]), (.lst [(.tup [(.str q_c), r7])])]), r1.2) else (ob (eqD r1.1 (.int 1)) fun t8 => if t8 = true then .ok ((.tup [(.lst []), (.lst [(.tup [(.str q_a), (.tup [(.str q_not), (p5.getD 2 .non)])]), (.tup [(.str q_b), (.tup [(.str q_not), (p5.getD 0 .non)])]), (.tup [(.str q_c), (.tup [(.str q_not), (p5.getD 1 .non)])])])]), r1.2) else (ob (eqD r1.1 (.int 2)) fun t9 => if t9 = true then .ok ((.tup [(.lst [(.str q_a), (.str q_b)]), (.lst [(.tup [(.str q_c), (.tup [(.str q_not), (.tup [(.str q_or), (p5.getD 0 .non), (p5.getD 3 .non)])])]), (.tup [(.str q_d), (.tup [(.str q_not), (.tup [(.str q_or), (p5.getD 1 .non), (p5.getD 2 .non)])])])])]), r1.2) else rb (m__law_held (p5.getD 0 .non) (.tup [(.str q_not), (p5.getD 2 .non)]) (p5.getD 1 .non)) fun r10 => rb (m__law_held (p5.getD 1 .non) (.tup [(.str q_not), (p5.getD 3 .non)]) (p5.getD 2 .non)) fun r11 => rb (m__law_held (p5.getD 2 .non) (.tup [(.str q_not), (p5.getD 4 .non)]) (p5.getD 3 .non)) fun r13 => ob (apL [(.tup [(.str q_b), r10]), (.tup [(.str q_c), r11])] (.tup [(.str q_d), r13])) fun t12 => .ok ((.tup [(.lst [(.str q_a), (.str q_e)]), (.lst t12)]), r1.2))))
abbrev s__law_known : Stmt := topS 17
theorem sc__law_known : FnScope ["deck", "kind", "gates", "a", "b", "c", "d", "e", "name"] ["deck"] (defScope s__law_known) := ⟨rfl, rfl, rfl, by decide +kernel, rfl, by decide +kernel, by decide +kernel⟩
theorem blk__law_known_0 : BlkOk ["deck", "kind", "gates", "a", "b", "c", "d", "e", "name"] (defScope s__law_known) { kind := PySem.ScopeKind.function, names := [(PySem.Str.ofString ".0", PySem.NameKind.local), (PySem.Str.ofString "name", PySem.NameKind.local)], isGenerator := false, isCoroutine := false, more := [] : PySem.Scope } [("name", 8)] := ⟨rfl, by decide +kernel, by decide +kernel, by decide +kernel, by decide +kernel⟩
def m__law_rule : Nat → ((List (List D) × D)) → D → D → Res (D × ((List (List D) × D)))
  | 0, _, _, _ => .fail
  | n_ + 1, x_deck, x_names, x_deep => rb (m__law_draw x_deck (.int 6)) fun r1 => (ob (eqD x_deep (.int 1)) fun t3 => rb (if t3 = true then .ok (true, ()) else ob (ltD r1.1 (.int 2)) fun t4 => .ok (t4, ()) : Res (Bool × Unit)) fun p2 => if p2.1 = true then ob (lenD x_names) fun t7 => rb (m__law_draw r1.2 t7) fun r6 => ob (ixD x_names r6.1) fun t5 => .ok ((.tup [(.str q_wire), t5]), r6.2) else ob (subD x_deep (.int 1)) fun t9 => rb (m__law_rule n_ r1.2 x_names t9) fun r8 => (ob (eqD r1.1 (.int 2)) fun t10 => if t10 = true then .ok ((.tup [(.str q_not), r8.1]), r8.2) else rb (m__law_draw r8.2 (.int 2)) fun r12 => ob (ixD (.lst [(.str q_and), (.str q_or)]) r12.1) fun t11 => ob (subD x_deep (.int 1)) fun t14 => rb (m__law_rule n_ r12.2 x_names t14) fun r13 => .ok ((.tup [t11, r8.1, r13.1]), r13.2)))
abbrev s__law_rule : Stmt := topS 14
theorem sc__law_rule : FnScope ["deck", "names", "deep", "kind", "one"] ["deck", "names", "deep"] (defScope s__law_rule) := ⟨rfl, rfl, rfl, by decide +kernel, rfl, by decide +kernel, by decide +kernel⟩
def m__law_net (x_deck : (List (List D) × D)) : Res (D × ((List (List D) × D))) :=
  (rb (m__law_draw x_deck (.int 5)) fun r2 => ob (eqD r2.1 (.int 0)) fun t1 => if t1 = true then rb (m__law_known r2.2) fun r3 => .ok (r3.1, r3.2) else rb (m__law_draw r2.2 (.int 5)) fun r4 => rb (m__law_draw r4.2 (.int 7)) fun r6 => ob (addD (.int 1) r6.1) fun t5 => ob (addD r4.1 t5) fun t8 => rb (m__law_names r6.2 t8) fun r7 => ob (asI r4.1) fun t13 => ob (slL (some t13) none (.lst r7.1)) fun t12 => ob (asLst (.lst t12)) fun ds11 => rb (forN (Z := (((List (List D) × D)) × (List D))) ds11 (r7.2, []) fun z10 d9 => ob (eqD (.lst z10.2) (.lst [])) fun t17 => ob (intD (.bl t17)) fun t16 => ob (ixD (.lst [(.int 4), (.int 10)]) t16) fun t15 => rb (m__law_draw z10.1 (.int 3)) fun r18 => ob (ixD (.lst [(.int 3), (.int 4), t15]) r18.1) fun t14 => rb (m__law_rule 24 r18.2 (.lst r7.1) t14) fun r20 => ob (apL z10.2 (.tup [d9, r20.1])) fun t19 => .ok (r20.2, t19)) fun z10 => ob (asI r4.1) fun t22 => ob (slL none (some t22) (.lst r7.1)) fun t21 => .ok ((.tup [(.lst t21), (.lst z10.2)]), z10.1))
abbrev s__law_net : Stmt := topS 18
theorem sc__law_net : FnScope ["deck", "inputs", "gates", "names", "found", "name", "deep"] ["deck"] (defScope s__law_net) := ⟨rfl, rfl, rfl, by decide +kernel, rfl, by decide +kernel, by decide +kernel⟩
def m__law_name_good (x_thing : D) : Res D :=
  (ob (isK x_thing .str) fun t3 => ob (asB (.bl t3)) fun t2 => rb (if (!t2) = true then .ok (true, ()) else ob (lenD x_thing) fun t7 => ob (ltD (.int 0) t7) fun t4 => rb (if t4 = true then ob (ltD t7 (.int 9)) fun e => .ok e else .ok false : Res Bool) fun c5 => .ok ((!c5), ()) : Res (Bool × Unit)) fun p1 => if p1.1 = true then .ok (.bl false) else ob (asStr x_thing) fun t10 => ob (stripD x_thing (.str q_abcdefghijklmnopqrstuvwxyz)) fun t9 => ob (eqD t9 (.str qx_)) fun t8 => .ok (.bl t8))
abbrev s__law_name_good : Stmt := topS 20
theorem sc__law_name_good : FnScope ["thing"] ["thing"] (defScope s__law_name_good) := ⟨rfl, rfl, rfl, by decide +kernel, rfl, by decide +kernel, by decide +kernel⟩
def m__law_rule_good : Nat → D → D → D → Res D
  | 0, _, _, _ => .fail
  | n_ + 1, x_thing, x_names, x_deep => (ob (isK x_thing .tuple) fun t3 => ob (asB (.bl t3)) fun t2 => rb (if (!t2) = true then .ok (true, ()) else ob (eqG x_thing (.tup [])) fun t5 => rb (if t5 = true then .ok (true, ()) else ob (gtD x_deep (.int 10)) fun t6 => .ok (t6, ()) : Res (Bool × Unit)) fun p4 => .ok (p4.1, ()) : Res (Bool × Unit)) fun p1 => if p1.1 = true then .ok (.bl false) else (ob (ixD x_thing (.int 0)) fun t9 => ob (eqG t9 (.str q_wire)) fun t8 => rb (if t8 = true then ob (lenD x_thing) fun t11 => ob (eqD t11 (.int 2)) fun t10 => .ok (t10, ()) else .ok (false, ()) : Res (Bool × Unit)) fun p7 => if p7.1 = true then ob (ixD x_thing (.int 1)) fun t15 => ob (isK t15 .str) fun t14 => ob (asB (.bl t14)) fun t12 => rb (if t12 = true then ob (asLst x_names) fun t18 => ob (ixD x_thing (.int 1)) fun t19 => ob (countD x_names t19) fun t17 => ob (gtD t17 (.int 0)) fun t16 => .ok ((.bl t16), ()) else .ok (.bl false, ()) : Res (D × Unit)) fun p13 => .ok p13.1 else (ob (ixD x_thing (.int 0)) fun t22 => ob (eqG t22 (.str q_not)) fun t21 => rb (if t21 = true then ob (lenD x_thing) fun t24 => ob (eqD t24 (.int 2)) fun t23 => .ok (t23, ()) else .ok (false, ()) : Res (Bool × Unit)) fun p20 => if p20.1 = true then ob (ixD x_thing (.int 1)) fun t26 => ob (addD x_deep (.int 1)) fun t27 => rb (m__law_rule_good n_ t26 x_names t27) fun r25 => .ok r25 else (ob (ixD x_thing (.int 0)) fun t30 => ob (inE t30 (.lst [(.str q_and), (.str q_or)])) fun t29 => rb (if t29 = true then ob (lenD x_thing) fun t32 => ob (eqD t32 (.int 3)) fun t31 => .ok (t31, ()) else .ok (false, ()) : Res (Bool × Unit)) fun p28 => if p28.1 = true then ob (ixD x_thing (.int 1)) fun t36 => ob (addD x_deep (.int 1)) fun t37 => rb (m__law_rule_good n_ t36 x_names t37) fun r35 => ob (asB r35) fun t33 => rb (if t33 = true then ob (ixD x_thing (.int 2)) fun t39 => ob (addD x_deep (.int 1)) fun t40 => rb (m__law_rule_good n_ t39 x_names t40) fun r38 => .ok (r38, ()) else .ok (.bl false, ()) : Res (D × Unit)) fun p34 => .ok p34.1 else .ok (.bl false)))))
abbrev s__law_rule_good : Stmt := topS 21
theorem sc__law_rule_good : FnScope ["thing", "names", "deep"] ["thing", "names", "deep"] (defScope s__law_rule_good) := ⟨rfl, rfl, rfl, by decide +kernel, rfl, by decide +kernel, by decide +kernel⟩
def m__law_good (x_thing : D) : Res D :=
  (ob (isK x_thing .tuple) fun t3 => ob (asB (.bl t3)) fun t2 => rb (if (!t2) = true then .ok (true, ()) else ob (lenD x_thing) fun t5 => ob (neD t5 (.int 2)) fun t4 => .ok (t4, ()) : Res (Bool × Unit)) fun p1 => if p1.1 = true then .ok (.bl false) else (ob (ixD x_thing (.int 0)) fun t9 => ob (isK t9 .list) fun t8 => ob (asB (.bl t8)) fun t7 => rb (if (!t7) = true then .ok (true, ()) else ob (ixD x_thing (.int 1)) fun t12 => ob (isK t12 .list) fun t11 => ob (asB (.bl t11)) fun t10 => .ok ((!t10), ()) : Res (Bool × Unit)) fun p6 => if p6.1 = true then .ok (.bl false) else (ob (ixD x_thing (.int 0)) fun t16 => ob (lenD t16) fun t15 => ob (gtD t15 (.int 4)) fun t14 => rb (if t14 = true then .ok (true, ()) else ob (ixD x_thing (.int 1)) fun t21 => ob (lenD t21) fun t20 => ob (ltD (.int 0) t20) fun t17 => rb (if t17 = true then ob (ltD t20 (.int 8)) fun e => .ok e else .ok false : Res Bool) fun c18 => .ok ((!c18), ()) : Res (Bool × Unit)) fun p13 => if p13.1 = true then .ok (.bl false) else ob (ixD x_thing (.int 1)) fun t25 => ob (asLst t25) fun ds24 => rb (forL (Z := Unit) (R := D) ds24 () fun z23 d22 => (ob (isK d22 .tuple) fun t28 => ob (asB (.bl t28)) fun t27 => rb (if (!t27) = true then .ok (true, ()) else ob (lenD d22) fun t30 => ob (neD t30 (.int 2)) fun t29 => .ok (t29, ()) : Res (Bool × Unit)) fun p26 => if p26.1 = true then .ok (.rt (.bl false)) else .ok (.nx ()))) fun o => Fl.on o (fun z23 => ob (ixD x_thing (.int 0)) fun t32 => ob (ixD x_thing (.int 1)) fun t36 => ob (asLst t36) fun ds35 => rb (fmR ds35 fun d33 => ob (ixD d33 (.int 0)) fun t37 => .ok (some t37)) fun ys34 => ob (catD t32 (.lst ys34)) fun t31 => (ob (asLst (.lst t31)) fun ds41 => rb (fmR ds41 fun d39 => rb (m__law_name_good d39) fun r43 => ob (asB r43) fun t42 => if (!t42) = true then .ok (some d39) else .ok none) fun ys40 => ob (neN (.lst ys40) (.lst [])) fun t38 => if t38 = true then .ok (.bl false) else (ob (asLst (.lst t31)) fun ds47 => rb (fmR ds47 fun d45 => ob (asLst (.lst t31)) fun t50 => ob (countD (.lst t31) d45) fun t49 => ob (gtD t49 (.int 1)) fun t48 => if t48 = true then .ok (some d45) else .ok none) fun ys46 => ob (neN (.lst ys46) (.lst [])) fun t44 => if t44 = true then .ok (.bl false) else ob (ixD x_thing (.int 1)) fun t55 => ob (asLst t55) fun ds54 => rb (fmR ds54 fun d52 => ob (ixD d52 (.int 1)) fun t58 => rb (m__law_rule_good 24 t58 (.lst t31) (.int 1)) fun r57 => ob (asB r57) fun t56 => if (!t56) = true then .ok (some d52) else .ok none) fun ys53 => ob (eqN (.lst ys53) (.lst [])) fun t51 => .ok (.bl t51)))) (fun r => .ok r))))
abbrev s__law_good : Stmt := topS 22
theorem sc__law_good : FnScope ["thing", "gate", "names", "name"] ["thing"] (defScope s__law_good) := ⟨rfl, rfl, rfl, by decide +kernel, rfl, by decide +kernel, by decide +kernel⟩
theorem blk__law_good_0 : BlkOk ["thing", "gate", "names", "name"] (defScope s__law_good) { kind := PySem.ScopeKind.function, names := [ (PySem.Str.ofString ".0", PySem.NameKind.local), (PySem.Str.ofString "gate", PySem.NameKind.local), (PySem.Str.ofString "_law_rule_good", PySem.NameKind.globalImplicit), (PySem.Str.ofString "names", PySem.NameKind.free)], isGenerator := false, isCoroutine := false, more := [] : PySem.Scope } [("gate", 1)] := ⟨rfl, by decide +kernel, by decide +kernel, by decide +kernel, by decide +kernel⟩
theorem blk__law_good_1 : BlkOk ["thing", "gate", "names", "name"] (defScope s__law_good) { kind := PySem.ScopeKind.function, names := [ (PySem.Str.ofString ".0", PySem.NameKind.local), (PySem.Str.ofString "name", PySem.NameKind.local), (PySem.Str.ofString "names", PySem.NameKind.free)], isGenerator := false, isCoroutine := false, more := [] : PySem.Scope } [("name", 3)] := ⟨rfl, by decide +kernel, by decide +kernel, by decide +kernel, by decide +kernel⟩
theorem blk__law_good_2 : BlkOk ["thing", "gate", "names", "name"] (defScope s__law_good) { kind := PySem.ScopeKind.function, names := [ (PySem.Str.ofString ".0", PySem.NameKind.local), (PySem.Str.ofString "name", PySem.NameKind.local), (PySem.Str.ofString "_law_name_good", PySem.NameKind.globalImplicit)], isGenerator := false, isCoroutine := false, more := [] : PySem.Scope } [("name", 3)] := ⟨rfl, by decide +kernel, by decide +kernel, by decide +kernel, by decide +kernel⟩
theorem blk__law_good_3 : BlkOk ["thing", "gate", "names", "name"] (defScope s__law_good) { kind := PySem.ScopeKind.function, names := [(PySem.Str.ofString ".0", PySem.NameKind.local), (PySem.Str.ofString "gate", PySem.NameKind.local)], isGenerator := false, isCoroutine := false, more := [] : PySem.Scope } [("gate", 1)] := ⟨rfl, by decide +kernel, by decide +kernel, by decide +kernel, by decide +kernel⟩
def m__law_deep : Nat → D → Res D
  | 0, _ => .fail
  | n_ + 1, x_thing => (ob (isK x_thing .list) fun t2 => ob (asB (.bl t2)) fun t1 => if t1 = true then ob (asLst x_thing) fun ds5 => rb (fmR ds5 fun d3 => rb (m__law_deep n_ d3) fun r6 => .ok (some r6)) fun ys4 => .ok (.lst ys4) else (ob (isK x_thing .tuple) fun t8 => ob (asB (.bl t8)) fun t7 => if t7 = true then ob (asTup x_thing) fun ds12 => rb (fmR ds12 fun d10 => rb (m__law_deep n_ d10) fun r13 => .ok (some r13)) fun ys11 => ob (tupleD (.lst ys11)) fun t9 => .ok t9 else .ok x_thing))
abbrev s__law_deep : Stmt := topS 30
theorem sc__law_deep : FnScope ["thing", "one"] ["thing"] (defScope s__law_deep) := ⟨rfl, rfl, rfl, by decide +kernel, rfl, by decide +kernel, by decide +kernel⟩
theorem blk__law_deep_0 : BlkOk ["thing", "one"] (defScope s__law_deep) { kind := PySem.ScopeKind.function, names := [ (PySem.Str.ofString ".0", PySem.NameKind.local), (PySem.Str.ofString "one", PySem.NameKind.local), (PySem.Str.ofString "_law_deep", PySem.NameKind.globalImplicit)], isGenerator := false, isCoroutine := false, more := [] : PySem.Scope } [("one", 1)] := ⟨rfl, by decide +kernel, by decide +kernel, by decide +kernel, by decide +kernel⟩
theorem blk__law_deep_1 : BlkOk ["thing", "one"] (defScope s__law_deep) { kind := PySem.ScopeKind.function, names := [ (PySem.Str.ofString ".0", PySem.NameKind.local), (PySem.Str.ofString "one", PySem.NameKind.local), (PySem.Str.ofString "_law_deep", PySem.NameKind.globalImplicit)], isGenerator := false, isCoroutine := false, more := [] : PySem.Scope } [("one", 1)] := ⟨rfl, by decide +kernel, by decide +kernel, by decide +kernel, by decide +kernel⟩
def m_wires_of (x_net : D) : Res (List D) :=
  ob (ixD x_net (.int 0)) fun t3 => ob (listD t3) fun t2 => ob (ixD x_net (.int 1)) fun t7 => ob (asLst t7) fun ds6 => rb (fmR ds6 fun d4 => ob (un2 d4) fun p8 => .ok (some p8.1)) fun ys5 => ob (catD (.lst t2) (.lst ys5)) fun t1 => .ok t1
abbrev s_wires_of : Stmt := topS 10
theorem sc_wires_of : FnScope ["net", "name", "rule"] ["net"] (defScope s_wires_of) := ⟨rfl, rfl, rfl, by decide +kernel, rfl, by decide +kernel, by decide +kernel⟩
theorem blk_wires_of_0 : BlkOk ["net", "name", "rule"] (defScope s_wires_of) { kind := PySem.ScopeKind.function, names := [ (PySem.Str.ofString ".0", PySem.NameKind.local), (PySem.Str.ofString "name", PySem.NameKind.local), (PySem.Str.ofString "rule", PySem.NameKind.local)], isGenerator := false, isCoroutine := false, more := [] : PySem.Scope } [("name", 1), ("rule", 2)] := ⟨rfl, by decide +kernel, by decide +kernel, by decide +kernel, by decide +kernel⟩
def m_is_rule : Nat → D → D → D → Res D
  | 0, _, _, _ => .fail
  | n_ + 1, x_thing, x_names, x_deep => (ob (isK x_thing .tuple) fun t3 => ob (asB (.bl t3)) fun t2 => rb (if (!t2) = true then .ok (true, ()) else ob (lenD x_thing) fun t6 => ob (ltD t6 (.int 2)) fun t5 => rb (if t5 = true then .ok (true, ()) else ob (ixD x_thing (.int 0)) fun t10 => ob (isK t10 .str) fun t9 => ob (asB (.bl t9)) fun t8 => rb (if (!t8) = true then .ok (true, ()) else ob (eqD x_deep (.int 0)) fun t11 => .ok (t11, ()) : Res (Bool × Unit)) fun p7 => .ok (p7.1, ()) : Res (Bool × Unit)) fun p4 => .ok (p4.1, ()) : Res (Bool × Unit)) fun p1 => if p1.1 = true then .ok (.bl false) else (ob (ixD x_thing (.int 0)) fun t13 => ob (eqD t13 (.str q_wire)) fun t12 => if t12 = true then ob (lenD x_thing) fun t17 => ob (eqD t17 (.int 2)) fun t16 => ob (asB (.bl t16)) fun t14 => rb (if t14 = true then ob (ixD x_thing (.int 1)) fun t21 => ob (isK t21 .str) fun t20 => ob (asB (.bl t20)) fun t18 => rb (if t18 = true then ob (ixD x_thing (.int 1)) fun t23 => ob (inD t23 x_names) fun t22 => .ok ((.bl t22), ()) else .ok (.bl false, ()) : Res (D × Unit)) fun p19 => .ok (p19.1, ()) else .ok (.bl false, ()) : Res (D × Unit)) fun p15 => .ok p15.1 else (ob (ixD x_thing (.int 0)) fun t25 => ob (eqD t25 (.str q_not)) fun t24 => if t24 = true then ob (lenD x_thing) fun t29 => ob (eqD t29 (.int 2)) fun t28 => ob (asB (.bl t28)) fun t26 => rb (if t26 = true then ob (ixD x_thing (.int 1)) fun t31 => ob (subD x_deep (.int 1)) fun t32 => rb (m_is_rule n_ t31 x_names t32) fun r30 => .ok (r30, ()) else .ok (.bl false, ()) : Res (D × Unit)) fun p27 => .ok p27.1 else (ob (ixD x_thing (.int 0)) fun t34 => ob (inD t34 (.tup [(.str q_and), (.str q_or)])) fun t33 => if t33 = true then ob (lenD x_thing) fun t38 => ob (eqD t38 (.int 3)) fun t37 => ob (asB (.bl t37)) fun t35 => rb (if t35 = true then ob (ixD x_thing (.int 1)) fun t42 => ob (subD x_deep (.int 1)) fun t43 => rb (m_is_rule n_ t42 x_names t43) fun r41 => ob (asB r41) fun t39 => rb (if t39 = true then ob (ixD x_thing (.int 2)) fun t45 => ob (subD x_deep (.int 1)) fun t46 => rb (m_is_rule n_ t45 x_names t46) fun r44 => .ok (r44, ()) else .ok (.bl false, ()) : Res (D × Unit)) fun p40 => .ok (p40.1, ()) else .ok (.bl false, ()) : Res (D × Unit)) fun p36 => .ok p36.1 else .ok (.bl false)))))
abbrev s_is_rule : Stmt := topS 7
theorem sc_is_rule : FnScope ["thing", "names", "deep"] ["thing", "names", "deep"] (defScope s_is_rule) := ⟨rfl, rfl, rfl, by decide +kernel, rfl, by decide +kernel, by decide +kernel⟩
def m_is_name (x_thing : D) : Res D :=
  (ob (isK x_thing .str) fun t3 => ob (asB (.bl t3)) fun t2 => rb (if (!t2) = true then .ok (true, ()) else ob (lenD x_thing) fun t7 => ob (leD (.int 1) t7) fun t4 => rb (if t4 = true then ob (leD t7 (.int 8)) fun e => .ok e else .ok false : Res Bool) fun c5 => .ok ((!c5), ()) : Res (Bool × Unit)) fun p1 => if p1.1 = true then .ok (.bl false) else ob (strLD x_thing) fun ds11 => rb (fmR ds11 fun d9 => ob (notInD d9 (.str q_abcdefghijklmnopqrstuvwxyz)) fun t12 => if t12 = true then .ok (some d9) else .ok none) fun ys10 => ob (eqN (.lst ys10) (.lst [])) fun t8 => .ok (.bl t8))
abbrev s_is_name : Stmt := topS 6
theorem sc_is_name : FnScope ["thing", "sign"] ["thing"] (defScope s_is_name) := ⟨rfl, rfl, rfl, by decide +kernel, rfl, by decide +kernel, by decide +kernel⟩
theorem blk_is_name_0 : BlkOk ["thing", "sign"] (defScope s_is_name) { kind := PySem.ScopeKind.function, names := [ (PySem.Str.ofString ".0", PySem.NameKind.local), (PySem.Str.ofString "sign", PySem.NameKind.local), (PySem.Str.ofString "SMALL_LETTERS", PySem.NameKind.globalImplicit)], isGenerator := false, isCoroutine := false, more := [] : PySem.Scope } [("sign", 1)] := ⟨rfl, by decide +kernel, by decide +kernel, by decide +kernel, by decide +kernel⟩
def m_is_gate (x_thing : D) : Res D :=
  ob (isK x_thing .tuple) fun t3 => ob (asB (.bl t3)) fun t1 => rb (if t1 = true then ob (lenD x_thing) fun t7 => ob (eqD t7 (.int 2)) fun t6 => ob (asB (.bl t6)) fun t4 => rb (if t4 = true then ob (ixD x_thing (.int 0)) fun t9 => rb (m_is_name t9) fun r8 => .ok (r8, ()) else .ok (.bl false, ()) : Res (D × Unit)) fun p5 => .ok (p5.1, ()) else .ok (.bl false, ()) : Res (D × Unit)) fun p2 => .ok p2.1
abbrev s_is_gate : Stmt := topS 8
theorem sc_is_gate : FnScope ["thing"] ["thing"] (defScope s_is_gate) := ⟨rfl, rfl, rfl, by decide +kernel, rfl, by decide +kernel, by decide +kernel⟩
def m_is_net (x_thing : D) : Res D :=
  (ob (isK x_thing .tuple) fun t3 => ob (asB (.bl t3)) fun t2 => rb (if (!t2) = true then .ok (true, ()) else ob (lenD x_thing) fun t5 => ob (neD t5 (.int 2)) fun t4 => .ok (t4, ()) : Res (Bool × Unit)) fun p1 => if p1.1 = true then .ok (.bl false) else ob (un2 x_thing) fun p6 => (ob (isK p6.1 .list) fun t9 => ob (asB (.bl t9)) fun t8 => rb (if (!t8) = true then .ok (true, ()) else ob (isK p6.2 .list) fun t11 => ob (asB (.bl t11)) fun t10 => .ok ((!t10), ()) : Res (Bool × Unit)) fun p7 => if p7.1 = true then .ok (.bl false) else (ob (lenD p6.1) fun t14 => ob (gtD t14 (.int 4)) fun t13 => rb (if t13 = true then .ok (true, ()) else ob (lenD p6.2) fun t18 => ob (leD (.int 1) t18) fun t15 => rb (if t15 = true then ob (leD t18 (.int 7)) fun e => .ok e else .ok false : Res Bool) fun c16 => .ok ((!c16), ()) : Res (Bool × Unit)) fun p12 => if p12.1 = true then .ok (.bl false) else (ob (asLst p6.1) fun ds23 => rb (fmR ds23 fun d21 => rb (m_is_name d21) fun r25 => ob (asB r25) fun t24 => if (!t24) = true then .ok (some d21) else .ok none) fun ys22 => ob (neN (.lst ys22) (.lst [])) fun t20 => rb (if t20 = true then .ok (true, ()) else ob (asLst p6.2) fun ds29 => rb (fmR ds29 fun d27 => rb (m_is_gate d27) fun r31 => ob (asB r31) fun t30 => if (!t30) = true then .ok (some d27) else .ok none) fun ys28 => ob (neN (.lst ys28) (.lst [])) fun t26 => .ok (t26, ()) : Res (Bool × Unit)) fun p19 => if p19.1 = true then .ok (.bl false) else rb (m_wires_of x_thing) fun r32 => (ob (lenSetD (.lst r32)) fun t34 => ob (lenD (.lst r32)) fun t35 => ob (ltD t34 t35) fun t33 => if t33 = true then .ok (.bl false) else ob (asLst p6.2) fun ds39 => rb (fmR ds39 fun d37 => ob (un2 d37) fun p40 => rb (m_is_rule 24 p40.2 (.lst r32) (.int 10)) fun r42 => ob (asB r42) fun t41 => if (!t41) = true then .ok (some p40.2) else .ok none) fun ys38 => ob (eqN (.lst ys38) (.lst [])) fun t36 => .ok (.bl t36))))))
abbrev s_is_net : Stmt := topS 9
theorem sc_is_net : FnScope ["thing", "names", "inputs", "gates", "one", "name", "rule"] ["thing"] (defScope s_is_net) := ⟨rfl, rfl, rfl, by decide +kernel, rfl, by decide +kernel, by decide +kernel⟩
theorem blk_is_net_0 : BlkOk ["thing", "names", "inputs", "gates", "one", "name", "rule"] (defScope s_is_net) { kind := PySem.ScopeKind.function, names := [ (PySem.Str.ofString ".0", PySem.NameKind.local), (PySem.Str.ofString "name", PySem.NameKind.local), (PySem.Str.ofString "rule", PySem.NameKind.local), (PySem.Str.ofString "is_rule", PySem.NameKind.globalImplicit), (PySem.Str.ofString "DEEPEST_RULE", PySem.NameKind.globalImplicit), (PySem.Str.ofString "names", PySem.NameKind.free)], isGenerator := false, isCoroutine := false, more := [] : PySem.Scope } [("name", 5), ("rule", 6)] := ⟨rfl, by decide +kernel, by decide +kernel, by decide +kernel, by decide +kernel⟩
theorem blk_is_net_1 : BlkOk ["thing", "names", "inputs", "gates", "one", "name", "rule"] (defScope s_is_net) { kind := PySem.ScopeKind.function, names := [ (PySem.Str.ofString ".0", PySem.NameKind.local), (PySem.Str.ofString "one", PySem.NameKind.local), (PySem.Str.ofString "is_gate", PySem.NameKind.globalImplicit)], isGenerator := false, isCoroutine := false, more := [] : PySem.Scope } [("one", 4)] := ⟨rfl, by decide +kernel, by decide +kernel, by decide +kernel, by decide +kernel⟩
theorem blk_is_net_2 : BlkOk ["thing", "names", "inputs", "gates", "one", "name", "rule"] (defScope s_is_net) { kind := PySem.ScopeKind.function, names := [ (PySem.Str.ofString ".0", PySem.NameKind.local), (PySem.Str.ofString "one", PySem.NameKind.local), (PySem.Str.ofString "is_name", PySem.NameKind.globalImplicit)], isGenerator := false, isCoroutine := false, more := [] : PySem.Scope } [("one", 4)] := ⟨rfl, by decide +kernel, by decide +kernel, by decide +kernel, by decide +kernel⟩
def m__law_right (x_thing : D) : Res D :=
  rb (m__law_good x_thing) fun r1 => rb (m__law_deep 24 x_thing) fun r2 => rb (m_is_net r2) fun r3 => ob (isK r3 .bool) fun t6 => ob (asB (.bl t6)) fun t4 => rb (if t4 = true then ob (eqD r3 r1) fun t9 => ob (asB (.bl t9)) fun t7 => rb (if t7 = true then ob (eqS r2 x_thing) fun t10 => .ok ((.bl t10), ()) else .ok (.bl false, ()) : Res (D × Unit)) fun p8 => .ok (p8.1, ()) else .ok (.bl false, ()) : Res (D × Unit)) fun p5 => .ok p5.1
abbrev s__law_right : Stmt := topS 31
theorem sc__law_right : FnScope ["thing", "due", "handed", "found"] ["thing"] (defScope s__law_right) := ⟨rfl, rfl, rfl, by decide +kernel, rfl, by decide +kernel, by decide +kernel⟩
def m__law_deep_rule (x_name : D) (x_deep : D) : Res D :=
  ob (subD x_deep (.int 1)) fun t4 => ob (rngD (.int 0) t4) fun ds3 => rb (forN (Z := D) ds3 (.tup [(.str q_wire), x_name]) fun z2 d1 => ob (addD d1 x_deep) fun t7 => ob (modD t7 (.int 4)) fun t6 => ob (ixD (.lst [(.tup [(.str q_not), z2]), (.tup [(.str q_and), (.tup [(.str q_wire), x_name]), z2]), (.tup [(.str q_or), z2, z2]), (.tup [(.str q_and), z2, (.tup [(.str q_wire), x_name])])]) t6) fun t5 => .ok t5) fun z2 => .ok z2
abbrev s__law_deep_rule : Stmt := topS 28
theorem sc__law_deep_rule : FnScope ["name", "deep", "rule", "k", "some"] ["name", "deep"] (defScope s__law_deep_rule) := ⟨rfl, rfl, rfl, by decide +kernel, rfl, by decide +kernel, by decide +kernel⟩
def m__law_fitting (x_deck : (List (List D) × D)) : Res (D × ((List (List D) × D))) :=
  rb (m__law_draw x_deck (.int 7)) fun r1 => rb (m__law_draw r1.2 (.int 10)) fun r2 => ob (addD r1.1 r2.1) fun t7 => ob (rngD (.int 0) t7) fun ds6 => rb (fmS ds6 r2.2 fun z4 d3 => ob (ixD (.str q_abcdefghijklmnopqrstuvwxyz) d3) fun t9 => rb (m__law_draw z4 (.int 8)) fun r12 => ob (fdivD r12.1 (.int 3)) fun t11 => ob (ixD (.lst [(.int 1), (.int 8), (.int 9), (.int 2)]) t11) fun t10 => ob (mulS t9 t10) fun t8 => .ok (some t8, r12.2)) fun p5 => ob (asI r1.1) fun t17 => ob (slL (some t17) none (.lst p5.1)) fun t16 => ob (asLst (.lst t16)) fun ds15 => rb (forN (Z := (((List (List D) × D)) × (List D))) ds15 (p5.2, []) fun z14 d13 => ob (lenD (.lst p5.1)) fun t20 => rb (m__law_draw z14.1 t20) fun r19 => ob (ixD (.lst p5.1) r19.1) fun t18 => rb (m__law_draw r19.2 (.int 11)) fun r25 => ob (fdivD r25.1 (.int 2)) fun t24 => ob (ixD (.lst [(.int 1), (.int 2), (.int 9), (.int 10), (.int 11), (.int 12)]) t24) fun t23 => rb (m__law_deep_rule t18 t23) fun r22 => ob (apL z14.2 (.tup [d13, r22])) fun t21 => .ok (r25.2, t21)) fun z14 => ob (asI r1.1) fun t27 => ob (slL none (some t27) (.lst p5.1)) fun t26 => .ok ((.tup [(.lst t26), (.lst z14.2)]), z14.1)
abbrev s__law_fitting : Stmt := topS 29
theorem sc__law_fitting : FnScope ["deck", "letters", "inputs", "gates", "names", "found", "name", "read", "k"] ["deck"] (defScope s__law_fitting) := ⟨rfl, rfl, rfl, by decide +kernel, rfl, by decide +kernel, by decide +kernel⟩
theorem blk__law_fitting_0 : BlkOk ["deck", "letters", "inputs", "gates", "names", "found", "name", "read", "k"] (defScope s__law_fitting) { kind := PySem.ScopeKind.function, names := [ (PySem.Str.ofString ".0", PySem.NameKind.local), (PySem.Str.ofString "k", PySem.NameKind.local), (PySem.Str.ofString "_law_draw", PySem.NameKind.globalImplicit), (PySem.Str.ofString "deck", PySem.NameKind.free), (PySem.Str.ofString "letters", PySem.NameKind.free)], isGenerator := false, isCoroutine := false, more := [] : PySem.Scope } [("k", 8)] := ⟨rfl, by decide +kernel, by decide +kernel, by decide +kernel, by decide +kernel⟩
def m__law_copy (x_net : D) : Res D :=
  ob (ixD x_net (.int 0)) fun t2 => ob (listD t2) fun t1 => ob (ixD x_net (.int 1)) fun t4 => ob (listD t4) fun t3 => .ok (.tup [.lst t1, .lst t3])
abbrev s__law_copy : Stmt := topS 19
theorem sc__law_copy : FnScope ["net"] ["net"] (defScope s__law_copy) := ⟨rfl, rfl, rfl, by decide +kernel, rfl, by decide +kernel, by decide +kernel⟩
def m__law_read_as : Nat → D → D → D → Res D
  | 0, _, _, _ => .fail
  | n_ + 1, x_rule, x_name, x_other => (ob (ixD x_rule (.int 0)) fun t2 => ob (eqD t2 (.str q_wire)) fun t1 => if t1 = true then ob (ixD x_rule (.int 1)) fun t4 => ob (ixD x_rule (.int 1)) fun t7 => ob (eqD t7 x_name) fun t6 => ob (intD (.bl t6)) fun t5 => ob (ixD (.lst [t4, x_other]) t5) fun t3 => .ok (.tup [(.str q_wire), t3]) else ob (ixD x_rule (.int 0)) fun t9 => ob (asI (.int 1)) fun t15 => ob (slT (some t15) none x_rule) fun t14 => ob (asTup t14) fun ds13 => rb (fmR ds13 fun d11 => rb (m__law_read_as n_ d11 x_name x_other) fun r16 => .ok (some r16)) fun ys12 => ob (tupleD (.lst ys12)) fun t10 => ob (catT (.tup [t9]) t10) fun t8 => .ok t8)
abbrev s__law_read_as : Stmt := topS 25
theorem sc__law_read_as : FnScope ["rule", "name", "other", "one"] ["rule", "name", "other"] (defScope s__law_read_as) := ⟨rfl, rfl, rfl, by decide +kernel, rfl, by decide +kernel, by decide +kernel⟩
theorem blk__law_read_as_0 : BlkOk ["rule", "name", "other", "one"] (defScope s__law_read_as) { kind := PySem.ScopeKind.function, names := [ (PySem.Str.ofString ".0", PySem.NameKind.local), (PySem.Str.ofString "one", PySem.NameKind.local), (PySem.Str.ofString "_law_read_as", PySem.NameKind.globalImplicit), (PySem.Str.ofString "name", PySem.NameKind.free), (PySem.Str.ofString "other", PySem.NameKind.free)], isGenerator := false, isCoroutine := false, more := [] : PySem.Scope } [("one", 3)] := ⟨rfl, by decide +kernel, by decide +kernel, by decide +kernel, by decide +kernel⟩
def m__law_named (x_deck : (List (List D) × D)) (x_net : D) : Res (D × ((List (List D) × D))) :=
  ob (ixD x_net (.int 0)) fun t2 => ob (ixD x_net (.int 1)) fun t6 => ob (asLst t6) fun ds5 => rb (fmR ds5 fun d3 => ob (ixD d3 (.int 0)) fun t7 => .ok (some t7)) fun ys4 => ob (catD t2 (.lst ys4)) fun t1 => ob (lenD (.lst t1)) fun t10 => rb (m__law_draw x_deck t10) fun r9 => ob (ixD (.lst t1) r9.1) fun t8 => ob (lenD t8) fun t12 => rb (m__law_draw r9.2 t12) fun r11 => ob (lenD (.str qn_13)) fun t15 => rb (m__law_draw r11.2 t15) fun r14 => ob (ixD (.str qn_13) r14.1) fun t13 => ob (asStr (.str qx_)) fun t17 => ob (rngD (.int 0) (.int 9)) fun ds21 => rb (fmS ds21 r14.2 fun z19 d18 => rb (m__law_draw z19 (.int 26)) fun r23 => ob (ixD (.str q_abcdefghijklmnopqrstuvwxyz) r23.1) fun t22 => .ok (some t22, r23.2)) fun p20 => ob (joinD (.str qx_) (.lst p20.1)) fun t16 => ob (asI r11.1) fun t27 => ob (slS none (some t27) t8) fun t26 => ob (addD t26 t13) fun t25 => ob (asI r11.1) fun t29 => ob (slS (some t29) none t8) fun t28 => ob (addD t25 t28) fun t24 => ob (asI r11.1) fun t33 => ob (slS none (some t33) t8) fun t32 => ob (addD t32 t13) fun t31 => ob (addD r11.1 (.int 1)) fun t36 => ob (asI t36) fun t35 => ob (slS (some t35) none t8) fun t34 => ob (addD t31 t34) fun t30 => ob (addD t8 t13) fun t37 => rb (m__law_draw p20.2 (.int 9)) fun r43 => ob (addD (.int 1) r43.1) fun t42 => ob (asI t42) fun t41 => ob (slS none (some t41) t16) fun t40 => ob (catD (.lst [t24, t30, t37]) (.lst [t40])) fun t39 => rb (m__law_draw r43.2 (.int 4)) fun r44 => ob (ixD (.lst t39) r44.1) fun t38 => ob (ixD x_net (.int 0)) fun t48 => ob (asLst t48) fun ds47 => rb (fmR ds47 fun d45 => ob (eqD d45 t8) fun t51 => ob (intD (.bl t51)) fun t50 => ob (ixD (.lst [d45, t38]) t50) fun t49 => .ok (some t49)) fun ys46 => ob (ixD x_net (.int 1)) fun t55 => ob (asLst t55) fun ds54 => rb (forN (Z := (List D)) ds54 [] fun z53 d52 => ob (un2 d52) fun p56 => ob (eqD p56.1 t8) fun t60 => ob (intD (.bl t60)) fun t59 => ob (ixD (.lst [p56.1, t38]) t59) fun t58 => rb (m__law_read_as 24 p56.2 t8 t38) fun r61 => ob (apL z53 (.tup [t58, r61])) fun t57 => .ok t57) fun z53 => .ok ((.tup [(.lst ys46), (.lst z53)]), r44.2)
abbrev s__law_named : Stmt := topS 26
theorem sc__law_named : FnScope ["deck", "net", "names", "name", "at", "signs", "sign", "letters", "some", "other", "inputs", "gates", "one", "rule", "gate", "k"] ["deck", "net"] (defScope s__law_named) := ⟨rfl, rfl, rfl, by decide +kernel, rfl, by decide +kernel, by decide +kernel⟩
theorem blk__law_named_0 : BlkOk ["deck", "net", "names", "name", "at", "signs", "sign", "letters", "some", "other", "inputs", "gates", "one", "rule", "gate", "k"] (defScope s__law_named) { kind := PySem.ScopeKind.function, names := [ (PySem.Str.ofString ".0", PySem.NameKind.local), (PySem.Str.ofString "one", PySem.NameKind.local), (PySem.Str.ofString "int", PySem.NameKind.globalImplicit), (PySem.Str.ofString "name", PySem.NameKind.free), (PySem.Str.ofString "other", PySem.NameKind.free)], isGenerator := false, isCoroutine := false, more := [] : PySem.Scope } [("one", 12)] := ⟨rfl, by decide +kernel, by decide +kernel, by decide +kernel, by decide +kernel⟩
theorem blk__law_named_1 : BlkOk ["deck", "net", "names", "name", "at", "signs", "sign", "letters", "some", "other", "inputs", "gates", "one", "rule", "gate", "k"] (defScope s__law_named) { kind := PySem.ScopeKind.function, names := [ (PySem.Str.ofString ".0", PySem.NameKind.local), (PySem.Str.ofString "k", PySem.NameKind.local), (PySem.Str.ofString "_law_draw", PySem.NameKind.globalImplicit), (PySem.Str.ofString "deck", PySem.NameKind.free)], isGenerator := false, isCoroutine := false, more := [] : PySem.Scope } [("k", 15)] := ⟨rfl, by decide +kernel, by decide +kernel, by decide +kernel, by decide +kernel⟩
theorem blk__law_named_2 : BlkOk ["deck", "net", "names", "name", "at", "signs", "sign", "letters", "some", "other", "inputs", "gates", "one", "rule", "gate", "k"] (defScope s__law_named) { kind := PySem.ScopeKind.function, names := [(PySem.Str.ofString ".0", PySem.NameKind.local), (PySem.Str.ofString "gate", PySem.NameKind.local)], isGenerator := false, isCoroutine := false, more := [] : PySem.Scope } [("gate", 14)] := ⟨rfl, by decide +kernel, by decide +kernel, by decide +kernel, by decide +kernel⟩
def m__law_odd (x_deck : (List (List D) × D)) (x_thing : D) : Res (D × ((List (List D) × D))) :=
  ob (catD (.lst [.non, (.int 5), (.bl true), (.str qx_), (.str q_a), (.str q_A), (.str q_abcdefghi), (.str q_a1), (.str q_wire), (.lst []), (.tup []), (.dct false []), (.lst [x_thing]), (.tup [x_thing])]) (.lst [(.tup [(.str q_wire)]), (.tup [(.str q_wire), (.str q_nope)])])) fun t1 => ob (catD (.lst t1) (.lst [(.tup [(.str q_not), x_thing]), (.tup [(.str q_and), x_thing]), (.tup [(.str q_or), x_thing, x_thing]), (.tup [(.str q_wire), .non])])) fun t2 => ob (catD (.lst t2) (.lst [(.tup [(.str q_xor), x_thing, x_thing]), (.lst [(.str q_wire), (.str q_a)])])) fun t3 => ob (catD (.lst t3) (.lst [(.tup [(.str q_not), x_thing, x_thing]), (.tup [(.str q_and), x_thing, x_thing, x_thing]), (.tup [.non, x_thing]), (.tup [(.str q_wire), (.lst [(.str q_a)])])])) fun t4 => ob (catD (.lst t4) (.lst [(.tup [(.str q_a), (.str q_b)]), (.tup [(.str qx_), (.tup [(.str q_wire), (.str q_a)])]), (.tup [(.lst [(.str q_and)]), x_thing, x_thing]), (.tup [(.dct false []), x_thing])])) fun t5 => rb (m__law_draw x_deck (.int 30)) fun r7 => ob (ixD (.lst t5) r7.1) fun t6 => .ok (t6, r7.2)
abbrev s__law_odd : Stmt := topS 23
theorem sc__law_odd : FnScope ["deck", "thing", "some"] ["deck", "thing"] (defScope s__law_odd) := ⟨rfl, rfl, rfl, by decide +kernel, rfl, by decide +kernel, by decide +kernel⟩
def m__law_bent : Nat → ((List (List D) × D)) → D → Res (D × ((List (List D) × D)))
  | 0, _, _ => .fail
  | n_ + 1, x_deck, x_rule => (rb (m__law_draw x_deck (.int 6)) fun r2 => ob (eqD r2.1 (.int 0)) fun t1 => if t1 = true then ob (negD (.int 1)) fun t5 => ob (ixD x_rule t5) fun t4 => ob (catT x_rule (.tup [t4])) fun t3 => .ok (t3, r2.2) else (ob (ixD x_rule (.int 0)) fun t8 => ob (eqD t8 (.str q_wire)) fun t7 => rb (if t7 = true then .ok (true, r2.2) else rb (m__law_draw r2.2 (.int 4)) fun r10 => ob (eqD r10.1 (.int 0)) fun t9 => .ok (t9, r10.2) : Res (Bool × ((List (List D) × D)))) fun p6 => if p6.1 = true then rb (m__law_odd p6.2 x_rule) fun r11 => .ok (r11.1, r11.2) else ob (lenD x_rule) fun t15 => ob (subD t15 (.int 1)) fun t14 => rb (m__law_draw p6.2 t14) fun r13 => ob (addD (.int 1) r13.1) fun t12 => ob (asI t12) fun t19 => ob (slT none (some t19) x_rule) fun t18 => ob (ixD x_rule t12) fun t21 => rb (m__law_bent n_ r13.2 t21) fun r20 => ob (catT t18 (.tup [r20.1])) fun t17 => ob (addD t12 (.int 1)) fun t24 => ob (asI t24) fun t23 => ob (slT (some t23) none x_rule) fun t22 => ob (catT t17 t22) fun t16 => .ok (t16, r20.2)))
abbrev s__law_bent : Stmt := topS 24
theorem sc__law_bent : FnScope ["deck", "rule", "at"] ["deck", "rule"] (defScope s__law_bent) := ⟨rfl, rfl, rfl, by decide +kernel, rfl, by decide +kernel, by decide +kernel⟩
def m__law_changed (x_deck : (List (List D) × D)) (x_net : D) : Res (D × ((List (List D) × D))) :=
  rb (m__law_copy x_net) fun r2 => ob (partsO [true, true] r2) fun ds1 => rb (m__law_draw x_deck (.int 12)) fun r3 => (ob (gtD r3.1 (.int 8)) fun t4 => if t4 = true then rb (m__law_named r3.2 x_net) fun r5 => .ok (r5.1, r5.2) else ob (lenD (.lst (lstOf (ds1.getD 1 .non)))) fun t7 => rb (m__law_draw r3.2 t7) fun r6 => ob (ixD (.lst (lstOf (ds1.getD 1 .non))) r6.1) fun t8 => ob (un2 t8) fun p9 => ob (asLst (.lst (lstOf (ds1.getD 1 .non)))) fun ds13 => rb (fmR ds13 fun d11 => ob (ixD d11 (.int 0)) fun t14 => .ok (some t14)) fun ys12 => ob (catD (.lst (lstOf (ds1.getD 0 .non))) (.lst ys12)) fun t10 => rb (ob (eqD r3.1 (.int 0)) fun t19 => if t19 = true then rb (m__law_bent 24 r6.2 p9.2) fun r21 => ob (setL (lstOf (ds1.getD 1 .non)) r6.1 (.tup [p9.1, r21.1])) fun t20 => .ok (t20, r21.2) else .ok ((lstOf (ds1.getD 1 .non)), r6.2) : Res ((List D) × ((List (List D) × D)))) fun z18 => rb (ob (eqD r3.1 (.int 1)) fun t26 => if t26 = true then rb (m__law_odd z18.2 p9.1) fun r28 => ob (setL z18.1 r6.1 (.tup [r28.1, p9.2])) fun t27 => .ok (t27, r28.2) else .ok (z18.1, z18.2) : Res ((List D) × ((List (List D) × D)))) fun z25 => rb (ob (eqD r3.1 (.int 2)) fun t34 => if t34 = true then rb (m__law_draw z25.2 (.int 6)) fun r37 => ob (ixD (.lst [(.lst [p9.1, p9.2]), (.tup [p9.1]), (.tup [p9.1, p9.2, (.int 0)]), .non, (.tup [p9.2, p9.1]), p9.1]) r37.1) fun t36 => ob (setL z25.1 r6.1 t36) fun t35 => .ok (t35, r37.2) else .ok (z25.1, z25.2) : Res ((List D) × ((List (List D) × D)))) fun z33 => rb (ob (eqD r3.1 (.int 3)) fun t49 => if t49 = true then ob (lenD (.lst t10)) fun t53 => rb (m__law_draw z33.2 t53) fun r52 => ob (ixD (.lst t10) r52.1) fun t51 => rb (m__law_draw r52.2 (.int 2)) fun r54 => ob (ixD (.lst [t51, (.str q_new)]) r54.1) fun t50 => ob (lenD (.lst (lstOf (ds1.getD 0 .non)))) fun t58 => ob (addD t58 (.int 1)) fun t57 => rb (m__law_draw r54.2 t57) fun r56 => ob (insL (lstOf (ds1.getD 0 .non)) r56.1 t50) fun t55 => .ok (t55, r56.2) else .ok ((lstOf (ds1.getD 0 .non)), z33.2) : Res ((List D) × ((List (List D) × D)))) fun z48 => rb (ob (eqD r3.1 (.int 4)) fun t66 => if t66 = true then ob (lenD (.lst z48.1)) fun t70 => ob (addD t70 (.int 1)) fun t69 => rb (m__law_draw z48.2 t69) fun r68 => rb (m__law_odd r68.2 (.str q_a)) fun r71 => ob (insL z48.1 r68.1 r71.1) fun t67 => .ok (t67, r71.2) else .ok (z48.1, z48.2) : Res ((List D) × ((List (List D) × D)))) fun z65 => rb (ob (eqD r3.1 (.int 5)) fun t83 => if t83 = true then ob (lenD (.lst z33.1)) fun t87 => rb (m__law_draw z65.2 t87) fun r86 => ob (ixD (.lst z33.1) r86.1) fun t85 => rb (m__law_draw r86.2 (.int 2)) fun r88 => ob (ixD (.lst [t85, (.tup [(.str q_more), p9.2])]) r88.1) fun t84 => ob (lenD (.lst z33.1)) fun t92 => ob (addD t92 (.int 1)) fun t91 => rb (m__law_draw r88.2 t91) fun r90 => ob (insL z33.1 r90.1 t84) fun t89 => .ok (t89, r90.2) else .ok (z33.1, z65.2) : Res ((List D) × ((List (List D) × D)))) fun z82 => rb (ob (eqD r3.1 (.int 6)) fun t96 => if t96 = true then ob (popAtL z82.1 r6.1) fun t97 => .ok t97.2 else .ok z82.1 : Res (List D)) fun z95 => rb (ob (eqD r3.1 (.int 7)) fun t106 => rb (if t106 = true then ob (neD (.lst z65.1) (.lst [])) fun t107 => .ok (t107, ()) else .ok (false, ()) : Res (Bool × Unit)) fun p105 => if p105.1 = true then ob (lenD (.lst z65.1)) fun t110 => rb (m__law_draw z82.2 t110) fun r109 => ob (popAtL z65.1 r109.1) fun t108 => .ok (t108.2, r109.2) else .ok (z65.1, z82.2) : Res ((List D) × ((List (List D) × D)))) fun z104 => (ob (eqD r3.1 (.int 8)) fun t111 => if t111 = true then ob (tupleD (.lst z104.1)) fun t112 => ob (tupleD (.lst z95)) fun t114 => ob (catD (.lst [(.lst [(.lst z104.1), (.lst z95)]), (.tup [(.lst z104.1)]), (.tup [(.lst z104.1), (.lst z95), (.int 0)]), (.tup [t112, (.lst z95)])]) (.lst [(.tup [(.lst z104.1), t114]), (.tup [(.lst z95), (.lst z104.1)]), (.tup [.non, (.lst z95)]), (.tup [(.lst z104.1), .non])])) fun t113 => ob (asStr (.str qx_)) fun t117 => ob (joinD (.str qx_) (.lst z104.1)) fun t116 => ob (asStr (.str qx_)) fun t119 => ob (joinD (.str qx_) (.lst z104.1)) fun t118 => ob (catD (.lst t113) (.lst [(.tup [t116, (.lst z95)]), (.tup [(.dct false []), (.lst z95)]), (.tup [(.lst z104.1), (.dct false [])]), (.tup [(.lst z104.1), t118])])) fun t115 => rb (m__law_draw z104.2 (.int 12)) fun r121 => ob (ixD (.lst t115) r121.1) fun t120 => .ok (t120, r121.2) else .ok ((.tup [(.lst z104.1), (.lst z95)]), z104.2)))
abbrev s__law_changed : Stmt := topS 27
theorem sc__law_changed : FnScope ["deck", "net", "way", "at", "names", "inputs", "gates", "name", "rule", "more", "some", "gate"] ["deck", "net"] (defScope s__law_changed) := ⟨rfl, rfl, rfl, by decide +kernel, rfl, by decide +kernel, by decide +kernel⟩
theorem blk__law_changed_0 : BlkOk ["deck", "net", "way", "at", "names", "inputs", "gates", "name", "rule", "more", "some", "gate"] (defScope s__law_changed) { kind := PySem.ScopeKind.function, names := [(PySem.Str.ofString ".0", PySem.NameKind.local), (PySem.Str.ofString "gate", PySem.NameKind.local)], isGenerator := false, isCoroutine := false, more := [] : PySem.Scope } [("gate", 11)] := ⟨rfl, by decide +kernel, by decide +kernel, by decide +kernel, by decide +kernel⟩
def m_law (x_script : D) : Res D :=
  rb (m__law_deck x_script) fun r1 => ob (rngD (.int 0) (.int 4)) fun ds4 => rb (forL (Z := ((List (List D) × D))) (R := D) ds4 r1 fun z3 d2 => rb (m__law_net z3) fun r5 => (rb (m_is_net r5.1) fun r8 => ob (notbD r8 (.bl true)) fun t7 => rb (if t7 = true then .ok (true, ()) else rb (m__law_right r5.1) fun r10 => ob (asB r10) fun t9 => .ok ((!t9), ()) : Res (Bool × Unit)) fun p6 => if p6.1 = true then .ok (.rt (.bl false)) else (rb (m__law_fitting r5.2) fun r14 => rb (m__law_right r14.1) fun r13 => ob (asB r13) fun t12 => rb (if (!t12) = true then .ok (true, r14.2) else rb (m__law_fitting r14.2) fun r17 => rb (m__law_right r17.1) fun r16 => ob (asB r16) fun t15 => .ok ((!t15), r17.2) : Res (Bool × ((List (List D) × D)))) fun p11 => if p11.1 = true then .ok (.rt (.bl false)) else ob (rngD (.int 0) (.int 10)) fun ds20 => rb (forL (Z := ((List (List D) × D))) (R := D) ds20 p11.2 fun z19 d18 => (rb (m__law_changed z19 r5.1) fun r23 => rb (m__law_right r23.1) fun r22 => ob (asB r22) fun t21 => if (!t21) = true then .ok (.rt (.bl false)) else .ok (.nx r23.2))) fun o => Fl.on o (fun z19 => .ok (.nx z19)) (fun r => .ok (.rt r))))) fun o => Fl.on o (fun z3 => ob (asLst (.lst [(.int 10), (.int 11)])) fun ds27 => rb (fmR ds27 fun d25 => rb (m__law_deep_rule (.str q_a) d25) fun r28 => .ok (some (.tup [(.lst []), (.lst [(.tup [(.str q_a), r28])])]))) fun ys26 => ob (catD (.lst [.non, (.int 5), (.str qx_), (.tup []), (.lst []), (.dct false []), (.tup [(.lst []), (.lst [])]), (.tup [(.lst []), (.lst [(.tup [(.str q_a), (.tup [(.str q_wire), (.str q_a)])])])])]) (.lst ys26)) fun t24 => ob (catD (.lst t24) (.lst [(.tup [(.lst []), (.lst [(.tup [(.str q_a), (.tup [])])])]), (.tup [(.lst [(.str q_a)]), (.lst [])]), (.bl true)])) fun t32 => ob (asLst (.lst t32)) fun ds31 => rb (forL (Z := Unit) (R := D) ds31 () fun z30 d29 => (rb (m__law_right d29) fun r34 => ob (asB r34) fun t33 => if (!t33) = true then .ok (.rt (.bl false)) else .ok (.nx ()))) fun o => Fl.on o (fun z30 => .ok (.bl true)) (fun r => .ok r)) (fun r => .ok r)
abbrev s_law : Stmt := topS 32
theorem sc_law : FnScope ["script", "deck", "k", "things", "thing", "net", "turn", "deep"] ["script"] (defScope s_law) := ⟨rfl, rfl, rfl, by decide +kernel, rfl, by decide +kernel, by decide +kernel⟩
theorem blk_law_0 : BlkOk ["script", "deck", "k", "things", "thing", "net", "turn", "deep"] (defScope s_law) { kind := PySem.ScopeKind.function, names := [ (PySem.Str.ofString ".0", PySem.NameKind.local), (PySem.Str.ofString "deep", PySem.NameKind.local), (PySem.Str.ofString "_law_deep_rule", PySem.NameKind.globalImplicit)], isGenerator := false, isCoroutine := false, more := [] : PySem.Scope } [("deep", 7)] := ⟨rfl, by decide +kernel, by decide +kernel, by decide +kernel, by decide +kernel⟩
set_option genInjectivity false in
set_option genSizeOf false in
structure Tx [EC] (K : PySem.W.Frag) (mg : Str → Option Value) where
  a__law_deck : Addr
  d__law_deck : FuncData
  F__law_deck : Fun K "_law_deck" "_law_deck" s__law_deck a__law_deck d__law_deck
  b__law_deck : Binds K d__law_deck ["script"] []
  g__law_deck : mg "_law_deck" = some (.ref a__law_deck)
  a__law_draw : Addr
  d__law_draw : FuncData
  F__law_draw : Fun K "_law_draw" "_law_draw" s__law_draw a__law_draw d__law_draw
  b__law_draw : Binds K d__law_draw ["deck", "many"] []
  g__law_draw : mg "_law_draw" = some (.ref a__law_draw)
  a__law_names : Addr
  d__law_names : FuncData
  F__law_names : Fun K "_law_names" "_law_names" s__law_names a__law_names d__law_names
  b__law_names : Binds K d__law_names ["deck", "many"] []
  g__law_names : mg "_law_names" = some (.ref a__law_names)
  a__law_held : Addr
  d__law_held : FuncData
  F__law_held : Fun K "_law_held" "_law_held" s__law_held a__law_held d__law_held
  b__law_held : Binds K d__law_held ["one", "other", "own"] []
  g__law_held : mg "_law_held" = some (.ref a__law_held)
  a__law_known : Addr
  d__law_known : FuncData
  F__law_known : Fun K "_law_known" "_law_known" s__law_known a__law_known d__law_known
  b__law_known : Binds K d__law_known ["deck"] []
  g__law_known : mg "_law_known" = some (.ref a__law_known)
  a__law_rule : Addr
  d__law_rule : FuncData
  F__law_rule : Fun K "_law_rule" "_law_rule" s__law_rule a__law_rule d__law_rule
  b__law_rule : Binds K d__law_rule ["deck", "names", "deep"] []
  g__law_rule : mg "_law_rule" = some (.ref a__law_rule)
  a__law_net : Addr
  d__law_net : FuncData
  F__law_net : Fun K "_law_net" "_law_net" s__law_net a__law_net d__law_net
  b__law_net : Binds K d__law_net ["deck"] []
  g__law_net : mg "_law_net" = some (.ref a__law_net)
  a__law_name_good : Addr
  d__law_name_good : FuncData
  F__law_name_good : Fun K "_law_name_good" "_law_name_good" s__law_name_good a__law_name_good d__law_name_good
  b__law_name_good : Binds K d__law_name_good ["thing"] []
  g__law_name_good : mg "_law_name_good" = some (.ref a__law_name_good)
  a__law_rule_good : Addr
  d__law_rule_good : FuncData
  F__law_rule_good : Fun K "_law_rule_good" "_law_rule_good" s__law_rule_good a__law_rule_good d__law_rule_good
  b__law_rule_good : Binds K d__law_rule_good ["thing", "names", "deep"] []
  g__law_rule_good : mg "_law_rule_good" = some (.ref a__law_rule_good)
  a__law_good : Addr
  d__law_good : FuncData
  F__law_good : Fun K "_law_good" "_law_good" s__law_good a__law_good d__law_good
  b__law_good : Binds K d__law_good ["thing"] []
  g__law_good : mg "_law_good" = some (.ref a__law_good)
  a__law_deep : Addr
  d__law_deep : FuncData
  F__law_deep : Fun K "_law_deep" "_law_deep" s__law_deep a__law_deep d__law_deep
  b__law_deep : Binds K d__law_deep ["thing"] []
  g__law_deep : mg "_law_deep" = some (.ref a__law_deep)
  a_wires_of : Addr
  d_wires_of : FuncData
  F_wires_of : Fun K "wires_of" "wires_of" s_wires_of a_wires_of d_wires_of
  b_wires_of : Binds K d_wires_of ["net"] []
  g_wires_of : mg "wires_of" = some (.ref a_wires_of)
  a_is_rule : Addr
  d_is_rule : FuncData
  F_is_rule : Fun K "is_rule" "is_rule" s_is_rule a_is_rule d_is_rule
  b_is_rule : Binds K d_is_rule ["thing", "names", "deep"] []
  g_is_rule : mg "is_rule" = some (.ref a_is_rule)
  a_is_name : Addr
  d_is_name : FuncData
  F_is_name : Fun K "is_name" "is_name" s_is_name a_is_name d_is_name
  b_is_name : Binds K d_is_name ["thing"] []
  g_is_name : mg "is_name" = some (.ref a_is_name)
  a_is_gate : Addr
  d_is_gate : FuncData
  F_is_gate : Fun K "is_gate" "is_gate" s_is_gate a_is_gate d_is_gate
  b_is_gate : Binds K d_is_gate ["thing"] []
  g_is_gate : mg "is_gate" = some (.ref a_is_gate)
  a_is_net : Addr
  d_is_net : FuncData
  F_is_net : Fun K "is_net" "is_net" s_is_net a_is_net d_is_net
  b_is_net : Binds K d_is_net ["thing"] []
  g_is_net : mg "is_net" = some (.ref a_is_net)
  a__law_right : Addr
  d__law_right : FuncData
  F__law_right : Fun K "_law_right" "_law_right" s__law_right a__law_right d__law_right
  b__law_right : Binds K d__law_right ["thing"] []
  g__law_right : mg "_law_right" = some (.ref a__law_right)
  a__law_deep_rule : Addr
  d__law_deep_rule : FuncData
  F__law_deep_rule : Fun K "_law_deep_rule" "_law_deep_rule" s__law_deep_rule a__law_deep_rule d__law_deep_rule
  b__law_deep_rule : Binds K d__law_deep_rule ["name", "deep"] []
  g__law_deep_rule : mg "_law_deep_rule" = some (.ref a__law_deep_rule)
  a__law_fitting : Addr
  d__law_fitting : FuncData
  F__law_fitting : Fun K "_law_fitting" "_law_fitting" s__law_fitting a__law_fitting d__law_fitting
  b__law_fitting : Binds K d__law_fitting ["deck"] []
  g__law_fitting : mg "_law_fitting" = some (.ref a__law_fitting)
  a__law_copy : Addr
  d__law_copy : FuncData
  F__law_copy : Fun K "_law_copy" "_law_copy" s__law_copy a__law_copy d__law_copy
  b__law_copy : Binds K d__law_copy ["net"] []
  g__law_copy : mg "_law_copy" = some (.ref a__law_copy)
  a__law_read_as : Addr
  d__law_read_as : FuncData
  F__law_read_as : Fun K "_law_read_as" "_law_read_as" s__law_read_as a__law_read_as d__law_read_as
  b__law_read_as : Binds K d__law_read_as ["rule", "name", "other"] []
  g__law_read_as : mg "_law_read_as" = some (.ref a__law_read_as)
  a__law_named : Addr
  d__law_named : FuncData
  F__law_named : Fun K "_law_named" "_law_named" s__law_named a__law_named d__law_named
  b__law_named : Binds K d__law_named ["deck", "net"] []
  g__law_named : mg "_law_named" = some (.ref a__law_named)
  a__law_odd : Addr
  d__law_odd : FuncData
  F__law_odd : Fun K "_law_odd" "_law_odd" s__law_odd a__law_odd d__law_odd
  b__law_odd : Binds K d__law_odd ["deck", "thing"] []
  g__law_odd : mg "_law_odd" = some (.ref a__law_odd)
  a__law_bent : Addr
  d__law_bent : FuncData
  F__law_bent : Fun K "_law_bent" "_law_bent" s__law_bent a__law_bent d__law_bent
  b__law_bent : Binds K d__law_bent ["deck", "rule"] []
  g__law_bent : mg "_law_bent" = some (.ref a__law_bent)
  a__law_changed : Addr
  d__law_changed : FuncData
  F__law_changed : Fun K "_law_changed" "_law_changed" s__law_changed a__law_changed d__law_changed
  b__law_changed : Binds K d__law_changed ["deck", "net"] []
  g__law_changed : mg "_law_changed" = some (.ref a__law_changed)
  a_law : Addr
  d_law : FuncData
  F_law : Fun K "law" "law" s_law a_law d_law
  n_bool : mg "bool" = none
  n_int : mg "int" = none
  n_isinstance : mg "isinstance" = none
  n_len : mg "len" = none
  n_list : mg "list" = none
  n_max : mg "max" = none
  n_min : mg "min" = none
  n_range : mg "range" = none
  n_set : mg "set" = none
  n_str : mg "str" = none
  n_tuple : mg "tuple" = none
  ct_SMALL_LETTERS : Tok
  cg_SMALL_LETTERS : mg "SMALL_LETTERS" = some (.str (PySem.Str.ofString "abcdefghijklmnopqrstuvwxyz") ct_SMALL_LETTERS)
  ct_LONGEST_NAME : Tok
  cg_LONGEST_NAME : mg "LONGEST_NAME" = some (.int 8 ct_LONGEST_NAME)
  ct_DEEPEST_RULE : Tok
  cg_DEEPEST_RULE : mg "DEEPEST_RULE" = some (.int 10 ct_DEEPEST_RULE)
  ct_MOST_GATES : Tok
  cg_MOST_GATES : mg "MOST_GATES" = some (.int 7 ct_MOST_GATES)
  ct_MOST_INPUTS : Tok
  cg_MOST_INPUTS : mg "MOST_INPUTS" = some (.int 4 ct_MOST_INPUTS)
section
variable [EC] {P : Program} {w : World} {K : PySem.W.Frag} {mg : Str → Option Value} {base : Heap}
theorem ok__law_deck (T : Tx K mg) : FnOk P w K mg base CX0 1 T.a__law_deck T.d__law_deck ["script"] (spOf (A := D) (R := (List (List D) × D)) EC.ec (fun a => [.f a]) (fun a => m__law_deck a) (fun r => deckT r) (fun r => [none])) := by
  refine T.F__law_deck.ok sc__law_deck (fun vs H Q E h => ?_) (fun cdv A outer s H vs Q E hr h => ?_)
  · obtain ⟨a, G, w, _, _, hl, _⟩ := h; exact hl
  · refine ⟨_, (pss_cons (ps_set (i := 1) sc__law_deck.nd rfl (by first | exact .inl rfl | exact .inr rfl) (pe_lst pa_nil)) (pss_cons (ps_for PassesOwn.never rfl (pi_range1 (by rfl) T.n_range (pa_cons (pe_callB (call_max2 rfl) (by rfl) T.n_max PyProof.Rows.boot_max (pa_cons pe_int (pa_cons (pe_callB (call_min2 rfl) (by rfl) T.n_min PyProof.Rows.boot_min (pa_cons pe_int (pa_cons (pe_callB (call_lenK (Kf := K) (by rfl)) (by rfl) T.n_len PySem.boot_len (pa_cons (pv 0) pa_nil)) pa_nil))) pa_nil))) pa_nil)) (pg_name (i := 2) sc__law_deck.nd rfl (by first | exact .inl rfl | exact .inr rfl)) (pss_cons (ps_set (i := 3) sc__law_deck.nd rfl (by first | exact .inl rfl | exact .inr rfl) pe_int) (pss_cons (ps_if (pt_cmpR op_ltA (pv 2) (pe_callB (call_lenK (Kf := K) (by rfl)) (by rfl) T.n_len PySem.boot_len (pa_cons (pv 0) pa_nil)) (nomark _)) (pss_one (ps_set (i := 3) sc__law_deck.nd rfl (by first | exact .inl rfl | exact .inr rfl) (pe_ix (ix_anyK (Kf := K) (by rfl)) (pv 0) (pv 2) (fun _ _ => rfl)))) pss_nil) (pss_one (ps_expr (pe_bmK (Kf := K) (by rfl) PySem.F.plainAttrs_list PySem.F.slot_list_append PySem.F.type_list_append mt_append (pv 1) (pa_cons (pe_lst (pa_cons (pv 3) (pa_cons (pe_callTy call_intA (by rfl) T.n_int PyProof.Rows.boot_int (pa_cons (pe_cmpR op_ge (pv 3) (pe_op op_pow pe_int pe_int) (nomark _)) pa_nil)) (pa_cons (pe_op op_mul pe_int (pv 2)) pa_nil)))) pa_nil))))))) (pss_one (ps_ret (pe_lst (pa_cons (pv 1) (pa_cons pe_int pa_nil))))))), ?_⟩
    refine fn_body (K := K) [] (fun _ => by show (1 : Nat) ≤ 4; decide) (fun _ => by show ∀ k ∈ ([] : List Nat), k < 1; decide) h (fun F x_script hec hE hK hpv => ?_)
    skip
    show RS F [] [some (.f x_script), none, none, none] (m__law_deck x_script) _ _ _
    unfold m__law_deck
    refine rs_seq ?_
    refine rs_set ?_ rfl (hpv _ (by decide))
    refine rd_lstO ?_
    refine ra_nil ?_
    refine ⟨([] : List (List D)).map VL.T.l, rfl, (by show (0 : Nat) ≤ 1000; decide), ?_⟩
    refine ⟨_, rfl, (by show (1 : Nat) < 4; decide), ?_⟩
    refine rs_at [some (.f x_script), some (.ll ((([] : List (List D))).map VL.T.l)), none, none] rfl ?_
    refine rs_seq ?_
    refine rs_forN (Z := (List (List D))) [2] ?_
    refine ri_range1 ?_
    refine rd_cb2 o_max ?_
    refine rd_int ?_
    intro _
    refine rd_cb2 o_min ?_
    refine rd_int ?_
    intro _
    refine rd_cb1 o_len ?_
    refine rd_var rfl ?_
    refine ⟨_, _, rfl, rfl, fun t6 => ?_⟩
    refine ⟨_, _, _, rfl, rfl, rfl, fun t5 => ?_⟩
    refine ⟨_, _, _, rfl, rfl, rfl, fun t4 => ?_⟩
    refine ⟨_, _, rfl, rfl, fun ds3 => ?_⟩
    refine ⟨fun z2 => [some (.f x_script), some (.ll ((z2).map VL.T.l)), none, none], _, _, _, rfl, ⟨.inr rfl, ⟨.inr rfl, ⟨.inl rfl, ⟨.inl rfl, trivial⟩⟩⟩⟩, fun _ => (by first | exact trivial | rfl | exact ⟨rfl, rfl⟩), fun z2 d1 => ?_, fun z2 => ?_⟩
    · refine rg_name (by show (2 : Nat) < 4; decide) rfl (hpv _ (by decide)) ?_
      refine rs_at [some (.f x_script), some (.ll ((z2).map VL.T.l)), some (.f d1), none] rfl ?_
      refine rs_seq ?_
      refine rs_set ?_ rfl (hpv _ (by decide))
      refine rd_int ?_
      refine ⟨_, rfl, (by show (3 : Nat) < 4; decide), ?_⟩
      refine rs_at [some (.f x_script), some (.ll ((z2).map VL.T.l)), some (.f d1), some (.f (.int 0))] rfl ?_
      refine rs_seq ?_
      refine rs_join (Z := D) (fun z10 => [some (.f x_script), some (.ll ((z2).map VL.T.l)), some (.f d1), some (.f z10)]) _ _ rfl ?_ (fun z10 => ?_)
      · refine rs_if ?_
        refine rt_op2B o_lt ?_
        refine rd_var rfl ?_
        intro _
        refine rd_cb1 o_len ?_
        refine rd_var rfl ?_
        refine ⟨_, _, rfl, rfl, fun t12 => ?_⟩
        refine ⟨_, _, _, rfl, rfl, rfl, fun t11 => ?_⟩
        refine ⟨_, _, rfl, fun _ => ?_, fun _ => ?_⟩
        · refine rs_set ?_ rfl (hpv _ (by decide))
          refine rd_op2 o_ix ?_
          refine rd_var rfl ?_
          intro _
          refine rd_var rfl ?_
          refine ⟨_, _, _, rfl, rfl, rfl, fun t13 => ?_⟩
          refine ⟨_, rfl, (by show (3 : Nat) < 4; decide), ?_⟩
          exact ⟨_, rfl, ⟨.inr rfl, ⟨.inr rfl, ⟨.inr rfl, ⟨.inr rfl, trivial⟩⟩⟩⟩⟩
        · refine rs_next ?_
          exact ⟨_, rfl, ⟨.inr rfl, ⟨.inr rfl, ⟨.inr rfl, ⟨.inr rfl, trivial⟩⟩⟩⟩⟩
      · refine rs_at [some (.f x_script), some (.ll ((z2).map VL.T.l)), some (.f d1), some (.f z10)] rfl ?_
        refine rs_drop ?_
        refine rd_appendO ⟨_, rfl⟩ (fun _ => ?_)
        refine rd_lst ?_
        refine ra_cons ?_
        refine rd_var rfl ?_
        intro _
        refine ra_cons ?_
        refine rd_cb1 o_int ?_
        refine rd_op2B o_ge ?_
        refine rd_var rfl ?_
        intro _
        refine rd_op2 o_pow ?_
        refine rd_int ?_
        intro _
        refine rd_int ?_
        refine ⟨_, _, _, rfl, rfl, rfl, fun t17 => ?_⟩
        refine ⟨_, _, _, rfl, rfl, rfl, fun t16 => ?_⟩
        refine ⟨_, _, rfl, rfl, fun t15 => ?_⟩
        intro _
        refine ra_cons ?_
        refine rd_op2 o_mul ?_
        refine rd_int ?_
        intro _
        refine rd_var rfl ?_
        refine ⟨_, _, _, rfl, rfl, rfl, fun t18 => ?_⟩
        intro _
        refine ra_nil ?_
        refine ⟨[z10, t15, t18], rfl, (by show (3 : Nat) ≤ 1000; decide), ?_⟩
        refine ⟨_, _, _, rfl, rfl, rfl, ?_⟩
        rw [mapTl]
        exact ⟨_, rfl, ⟨.inr rfl, ⟨.inr rfl, ⟨.inl rfl, ⟨.inl rfl, trivial⟩⟩⟩⟩⟩
    · refine rs_at [some (.f x_script), some (.ll ((z2).map VL.T.l)), none, none] rfl ?_
      refine rs_ret ?_
      refine rd_lstO ?_
      refine ra_cons ?_
      refine rd_mv rfl ?_
      intro _
      refine ra_cons ?_
      refine rd_int ?_
      intro _
      refine ra_nil ?_
      refine ⟨[.ll ((z2).map VL.T.l), .f (.int 0)], rfl, (by show (2 : Nat) ≤ 1000; decide), ?_⟩
      refine ⟨_, rfl, ?_⟩
      exact ⟨_, rfl, rfl, trivial⟩
theorem ok__law_draw (T : Tx K mg) : FnOk P w K mg base CX0 1 T.a__law_draw T.d__law_draw ["deck", "many"] (spOf (A := ((List (List D) × D)) × D) (R := D × ((List (List D) × D))) EC.ec (fun a => [deckT a.1, .f a.2]) (fun a => m__law_draw a.1 a.2) (fun r => .f r.1) (fun r => [some (deckT r.2), none])) := by
  refine T.F__law_draw.ok sc__law_draw (fun vs H Q E h => ?_) (fun cdv A outer s H vs Q E hr h => ?_)
  · obtain ⟨a, G, w, _, _, hl, _⟩ := h; exact hl
  · refine ⟨_, (pss_cons (ps_set (i := 2) sc__law_draw.nd rfl (by first | exact .inl rfl | exact .inr rfl) (pe_ix (ix_anyK (Kf := K) (by rfl)) (pe_ix (ix_anyK (Kf := K) (by rfl)) (pv 0) pe_int (fun _ _ => rfl)) (pe_op op_mod (pe_ix (ix_anyK (Kf := K) (by rfl)) (pv 0) pe_int (fun _ _ => rfl)) (pe_callB (call_lenK (Kf := K) (by rfl)) (by rfl) T.n_len PySem.boot_len (pa_cons (pe_ix (ix_anyK (Kf := K) (by rfl)) (pv 0) pe_int (fun _ _ => rfl)) pa_nil))) (fun _ _ => rfl))) (pss_cons (ps_asg (pe_op op_addA (pe_ix (ix_anyK (Kf := K) (by rfl)) (pv 0) pe_int (fun _ _ => rfl)) pe_int) (pg_sub (pv 0) pe_int set_list)) (pss_cons (ps_if (pw_and (pt_cmpR (op_eqM (hu_64 hr)) (pe_ix (ix_anyK (Kf := K) (by rfl)) (pv 2) pe_int (fun _ _ => rfl)) pe_int (nomark _)) (pw_and1 (pt_cmpR op_gt (pe_ix (ix_anyK (Kf := K) (by rfl)) (pv 2) pe_int (fun _ _ => rfl)) pe_int (nomark _)))).pt (pss_cons (ps_set (i := 4) sc__law_draw.nd rfl (by first | exact .inl rfl | exact .inr rfl) (pe_op op_mod (pe_ix (ix_anyK (Kf := K) (by rfl)) (pv 2) pe_int (fun _ _ => rfl)) (pv 1))) (pss_cons (ps_asg (pe_op op_fdiv (pe_ix (ix_anyK (Kf := K) (by rfl)) (pv 2) pe_int (fun _ _ => rfl)) (pv 1)) (pg_sub (pv 2) pe_int set_list)) (pss_one (ps_ret (pv 4))))) pss_nil) (pss_cons (ps_asg (pe_op op_addA (pe_ix (ix_anyK (Kf := K) (by rfl)) (pv 2) pe_int (fun _ _ => rfl)) pe_int) (pg_sub (pv 2) pe_int set_list)) (pss_cons (ps_set (i := 3) sc__law_draw.nd rfl (by first | exact .inl rfl | exact .inr rfl) (pe_op op_mod (pe_op op_addA (pe_op op_mod (pe_ix (ix_anyK (Kf := K) (by rfl)) (pv 2) pe_int (fun _ _ => rfl)) pe_int) (pe_op op_mul pe_int (pe_ix (ix_anyK (Kf := K) (by rfl)) (pv 2) pe_int (fun _ _ => rfl)))) pe_int)) (pss_cons (ps_set (i := 3) sc__law_draw.nd rfl (by first | exact .inl rfl | exact .inr rfl) (pe_op op_mod (pe_op op_mul (pv 3) (pv 3)) pe_int)) (pss_cons (ps_set (i := 3) sc__law_draw.nd rfl (by first | exact .inl rfl | exact .inr rfl) (pe_op op_mod (pe_op op_mul (pv 3) (pe_op op_addA (pv 3) pe_int)) pe_int)) (pss_one (ps_ret (pe_op op_mod (pe_op op_fdiv (pv 3) pe_int) (pv 1))))))))))), ?_⟩
    refine fn_body (K := K) [0] (fun _ => by show (2 : Nat) ≤ 5; decide) (fun _ => by show ∀ k ∈ ([0] : List Nat), k < 2; decide) h (fun F a hec hE hK hpv => ?_)
    obtain ⟨x_deck, x_many⟩ := a
    show RS F [] [some (deckT x_deck), some (.f x_many), none, none, none] (m__law_draw x_deck x_many) _ _ _
    unfold m__law_draw
    refine rs_pool (x := 2) rfl (by show (2 : Nat) < 5; decide) (by decide) rfl (hpv _ (by decide)) ⟨_, rfl, fun j1 v2 h3 => ?_⟩
    refine rs_at [some (openT (x_deck).1 j1 v2 (x_deck).2), some (.f x_many), some (.l ((x_deck).1.getD j1 [])), none, none] rfl ?_
    refine rs_seq ?_
    refine rs_setO (n := 1) ?_
    refine rd_op2 o_add ?_
    refine rd_ixO (n := 1) rfl rfl ?_
    intro _
    refine rd_int ?_
    refine ⟨_, _, _, rfl, rfl, rfl, fun t5 => ?_⟩
    refine ⟨_, _, rfl, rfl, (by show (1 : Nat) < 2; decide), ?_⟩
    refine rs_at [some (openT (x_deck).1 j1 v2 t5), some (.f x_many), some (.l ((x_deck).1.getD j1 [])), none, none] rfl ?_
    refine rs_seq ?_
    refine rs_if ?_
    refine rt_and (Z := Unit) ?_
    refine rt_op2B o_eq ?_
    refine rd_op2 o_ix ?_
    refine rd_ali rfl ?_
    intro _
    refine rd_int ?_
    refine ⟨_, _, _, rfl, rfl, rfl, fun t8 => ?_⟩
    intro _
    refine rd_int ?_
    refine ⟨_, _, _, rfl, rfl, rfl, fun t7 => ?_⟩
    refine ⟨fun z => [some (openT (x_deck).1 j1 v2 t5), some (.f x_many), some (.l ((x_deck).1.getD j1 [])), none, none], (), _, _, rfl, ⟨.inr rfl, ⟨.inr rfl, ⟨.inr rfl, ⟨.inl rfl, ⟨.inl rfl, trivial⟩⟩⟩⟩⟩, fun _ => ?_, fun p6 => ?_⟩
    · refine rt_op2B o_gt ?_
      refine rd_op2 o_ix ?_
      refine rd_ali rfl ?_
      intro _
      refine rd_int ?_
      refine ⟨_, _, _, rfl, rfl, rfl, fun t10 => ?_⟩
      intro _
      refine rd_int ?_
      refine ⟨_, _, _, rfl, rfl, rfl, fun t9 => ?_⟩
      exact ⟨_, rfl, ⟨.inr rfl, ⟨.inr rfl, ⟨.inr rfl, ⟨.inl rfl, ⟨.inl rfl, trivial⟩⟩⟩⟩⟩⟩
    · refine ⟨_, _, rfl, fun _ => ?_, fun _ => ?_⟩
      · refine rs_seq ?_
        refine rs_set ?_ rfl (hpv _ (by decide))
        refine rd_op2 o_mod ?_
        refine rd_op2 o_ix ?_
        refine rd_ali rfl ?_
        intro _
        refine rd_int ?_
        refine ⟨_, _, _, rfl, rfl, rfl, fun t12 => ?_⟩
        intro _
        refine rd_var rfl ?_
        refine ⟨_, _, _, rfl, rfl, rfl, fun t11 => ?_⟩
        refine ⟨_, rfl, (by show (4 : Nat) < 5; decide), ?_⟩
        refine rs_at [some (openT (x_deck).1 j1 v2 t5), some (.f x_many), some (.l ((x_deck).1.getD j1 [])), none, some (.f t11)] rfl ?_
        refine rs_seq ?_
        refine rs_setL ?_
        refine rd_op2 o_fdiv ?_
        refine rd_op2 o_ix ?_
        refine rd_ali rfl ?_
        intro _
        refine rd_int ?_
        refine ⟨_, _, _, rfl, rfl, rfl, fun t15 => ?_⟩
        intro _
        refine rd_var rfl ?_
        refine ⟨_, _, _, rfl, rfl, rfl, fun t14 => ?_⟩
        refine ⟨_, rfl, fun _ => ?_⟩
        refine rd_ali rfl ?_
        refine ⟨2, rfl, fun _ => ?_⟩
        refine rd_int ?_
        refine ⟨_, _, _, rfl, rfl, rfl, fun t13 => ?_⟩
        refine rs_at [some (openT (x_deck).1 j1 v2 t5), some (.f x_many), some (.l t13), none, some (.f t11)] rfl ?_
        refine rs_unpool (i := 0) (x := 2) rfl rfl h3 ?_
        refine rs_at [some (deckT (((x_deck).1).set j1 t13, t5)), some (.f x_many), none, none, some (.f t11)] rfl ?_
        refine rs_ret ?_
        refine rd_var rfl ?_
        refine ⟨_, rfl, ?_⟩
        exact ⟨_, rfl, rfl, ⟨rfl, by decide, trivial⟩⟩
      · refine rs_next ?_
        refine rs_at [some (openT (x_deck).1 j1 v2 t5), some (.f x_many), some (.l ((x_deck).1.getD j1 [])), none, none] rfl ?_
        refine rs_seq ?_
        refine rs_setL ?_
        refine rd_op2 o_add ?_
        refine rd_op2 o_ix ?_
        refine rd_ali rfl ?_
        intro _
        refine rd_int ?_
        refine ⟨_, _, _, rfl, rfl, rfl, fun t18 => ?_⟩
        intro _
        refine rd_int ?_
        refine ⟨_, _, _, rfl, rfl, rfl, fun t17 => ?_⟩
        refine ⟨_, rfl, fun _ => ?_⟩
        refine rd_ali rfl ?_
        refine ⟨2, rfl, fun _ => ?_⟩
        refine rd_int ?_
        refine ⟨_, _, _, rfl, rfl, rfl, fun t16 => ?_⟩
        refine rs_at [some (openT (x_deck).1 j1 v2 t5), some (.f x_many), some (.l t16), none, none] rfl ?_
        refine rs_seq ?_
        refine rs_set ?_ rfl (hpv _ (by decide))
        refine rd_op2 o_mod ?_
        refine rd_op2 o_add ?_
        refine rd_op2 o_mod ?_
        refine rd_op2 o_ix ?_
        refine rd_ali rfl ?_
        intro _
        refine rd_int ?_
        refine ⟨_, _, _, rfl, rfl, rfl, fun t22 => ?_⟩
        intro _
        refine rd_int ?_
        refine ⟨_, _, _, rfl, rfl, rfl, fun t21 => ?_⟩
        intro _
        refine rd_op2 o_mul ?_
        refine rd_int ?_
        intro _
        refine rd_op2 o_ix ?_
        refine rd_ali rfl ?_
        intro _
        refine rd_int ?_
        refine ⟨_, _, _, rfl, rfl, rfl, fun t24 => ?_⟩
        refine ⟨_, _, _, rfl, rfl, rfl, fun t23 => ?_⟩
        refine ⟨_, _, _, rfl, rfl, rfl, fun t20 => ?_⟩
        intro _
        refine rd_int ?_
        refine ⟨_, _, _, rfl, rfl, rfl, fun t19 => ?_⟩
        refine ⟨_, rfl, (by show (3 : Nat) < 5; decide), ?_⟩
        refine rs_at [some (openT (x_deck).1 j1 v2 t5), some (.f x_many), some (.l t16), some (.f t19), none] rfl ?_
        refine rs_seq ?_
        refine rs_set ?_ rfl (hpv _ (by decide))
        refine rd_op2 o_mod ?_
        refine rd_op2 o_mul ?_
        refine rd_var rfl ?_
        intro _
        refine rd_var rfl ?_
        refine ⟨_, _, _, rfl, rfl, rfl, fun t26 => ?_⟩
        intro _
        refine rd_int ?_
        refine ⟨_, _, _, rfl, rfl, rfl, fun t25 => ?_⟩
        refine ⟨_, rfl, (by show (3 : Nat) < 5; decide), ?_⟩
        refine rs_at [some (openT (x_deck).1 j1 v2 t5), some (.f x_many), some (.l t16), some (.f t25), none] rfl ?_
        refine rs_seq ?_
        refine rs_set ?_ rfl (hpv _ (by decide))
        refine rd_op2 o_mod ?_
        refine rd_op2 o_mul ?_
        refine rd_var rfl ?_
        intro _
        refine rd_op2 o_add ?_
        refine rd_var rfl ?_
        intro _
        refine rd_int ?_
        refine ⟨_, _, _, rfl, rfl, rfl, fun t29 => ?_⟩
        refine ⟨_, _, _, rfl, rfl, rfl, fun t28 => ?_⟩
        intro _
        refine rd_int ?_
        refine ⟨_, _, _, rfl, rfl, rfl, fun t27 => ?_⟩
        refine ⟨_, rfl, (by show (3 : Nat) < 5; decide), ?_⟩
        refine rs_at [some (openT (x_deck).1 j1 v2 t5), some (.f x_many), some (.l t16), some (.f t27), none] rfl ?_
        refine rs_unpool (i := 0) (x := 2) rfl rfl h3 ?_
        refine rs_at [some (deckT (((x_deck).1).set j1 t16, t5)), some (.f x_many), none, some (.f t27), none] rfl ?_
        refine rs_ret ?_
        refine rd_op2 o_mod ?_
        refine rd_op2 o_fdiv ?_
        refine rd_var rfl ?_
        intro _
        refine rd_int ?_
        refine ⟨_, _, _, rfl, rfl, rfl, fun t31 => ?_⟩
        intro _
        refine rd_var rfl ?_
        refine ⟨_, _, _, rfl, rfl, rfl, fun t30 => ?_⟩
        refine ⟨_, rfl, ?_⟩
        exact ⟨_, rfl, rfl, ⟨rfl, by decide, trivial⟩⟩
theorem ok__law_names (T : Tx K mg) : FnOk P w K mg base CX0 2 T.a__law_names T.d__law_names ["deck", "many"] (spOf (A := ((List (List D) × D)) × D) (R := (List D) × ((List (List D) × D))) EC.ec (fun a => [deckT a.1, .f a.2]) (fun a => m__law_names a.1 a.2) (fun r => .l r.1) (fun r => [some (deckT r.2), none])) := by
  refine T.F__law_names.ok sc__law_names (fun vs H Q E h => ?_) (fun cdv A outer s H vs Q E hr h => ?_)
  · obtain ⟨a, G, w, _, _, hl, _⟩ := h; exact hl
  · refine ⟨_, (pss_cons (ps_set (i := 2) sc__law_names.nd rfl (by first | exact .inl rfl | exact .inr rfl) pe_str) (pss_cons (ps_set (i := 3) sc__law_names.nd rfl (by first | exact .inl rfl | exact .inr rfl) (pe_joinK (Kf := K) (by rfl) pe_str (pe_lc (own := [("k", 5)]) rfl (by exact sc__law_names.nd) (pi_range1 (by rfl) T.n_range (pa_cons pe_int pa_nil)) blk__law_names_1 (fun _ _ _ _ _ => (pg_name (i := 5) sc__law_names.nd rfl (by first | exact .inl rfl | exact .inr rfl))) (fun _ _ _ _ _ => pts_nil) (fun _ _ _ _ _ => (pe_ix (ix_anyK (Kf := K) (by rfl)) (pv 2) (pe_call (ok__law_draw T) (hr.mono (by decide)) (by rfl) T.g__law_draw T.F__law_draw.kp T.b__law_draw .nil (show Passes CX0 _ E from pass0) (pa_cons (pv 0) (pa_cons pe_int pa_nil))) (fun _ _ => rfl)))))) (pss_cons (ps_set (i := 4) sc__law_names.nd rfl (by first | exact .inl rfl | exact .inr rfl) (pe_lst pa_nil)) (pss_cons (ps_for PassesOwn.never rfl (pi_range1 (by rfl) T.n_range (pa_cons (pv 1) pa_nil)) (pg_name (i := 5) sc__law_names.nd rfl (by first | exact .inl rfl | exact .inr rfl)) (pss_cons (ps_set (i := 6) sc__law_names.nd rfl (by first | exact .inl rfl | exact .inr rfl) (pe_call (ok__law_draw T) (hr.mono (by decide)) (by rfl) T.g__law_draw T.F__law_draw.kp T.b__law_draw .nil (show Passes CX0 _ E from pass0) (pa_cons (pv 0) (pa_cons pe_int pa_nil)))) (pss_cons (ps_set (i := 7) sc__law_names.nd rfl (by first | exact .inl rfl | exact .inr rfl) (pe_joinK (Kf := K) (by rfl) pe_str (pe_lc (own := [("j", 10)]) rfl (by exact sc__law_names.nd) (pi_range1 (by rfl) T.n_range (pa_cons (pe_op op_addA pe_int (pe_call (ok__law_draw T) (hr.mono (by decide)) (by rfl) T.g__law_draw T.F__law_draw.kp T.b__law_draw .nil (show Passes CX0 _ E from pass0) (pa_cons (pv 0) (pa_cons pe_int pa_nil)))) pa_nil)) blk__law_names_0 (fun _ _ _ _ _ => (pg_name (i := 10) sc__law_names.nd rfl (by first | exact .inl rfl | exact .inr rfl))) (fun _ _ _ _ _ => pts_nil) (fun _ _ _ _ _ => (pe_ix (ix_anyK (Kf := K) (by rfl)) (pv 2) (pe_call (ok__law_draw T) (hr.mono (by decide)) (by rfl) T.g__law_draw T.F__law_draw.kp T.b__law_draw .nil (show Passes CX0 _ E from pass0) (pa_cons (pv 0) (pa_cons pe_int pa_nil))) (fun _ _ => rfl)))))) (pss_cons (ps_if (pt_cmpR (op_eqM (hu_64 hr)) (pv 6) pe_int (nomark _)) (pss_one (ps_set (i := 7) sc__law_names.nd rfl (by first | exact .inl rfl | exact .inr rfl) (pe_op op_addA (pe_slice sl_str (pv 3) po_none (po_some (pe_call (ok__law_draw T) (hr.mono (by decide)) (by rfl) T.g__law_draw T.F__law_draw.kp T.b__law_draw .nil (show Passes CX0 _ E from pass0) (pa_cons (pv 0) (pa_cons pe_int pa_nil))))) (pe_ix (ix_anyK (Kf := K) (by rfl)) (pv 2) (pe_call (ok__law_draw T) (hr.mono (by decide)) (by rfl) T.g__law_draw T.F__law_draw.kp T.b__law_draw .nil (show Passes CX0 _ E from pass0) (pa_cons (pv 0) (pa_cons pe_int pa_nil))) (fun _ _ => rfl))))) pss_nil) (pss_cons (ps_if (pw_and (pt_cmpR (op_eqM (hu_64 hr)) (pv 6) pe_int (nomark _)) (pw_and1 (pt_cmpR (op_neM (hu_64 hr)) (pv 4) (pe_lst pa_nil) (nomark _)))).pt (pss_cons (ps_set (i := 9) sc__law_names.nd rfl (by first | exact .inl rfl | exact .inr rfl) (pe_call (ok__law_draw T) (hr.mono (by decide)) (by rfl) T.g__law_draw T.F__law_draw.kp T.b__law_draw .nil (show Passes CX0 _ E from pass0) (pa_cons (pv 0) (pa_cons (pe_callB (call_lenK (Kf := K) (by rfl)) (by rfl) T.n_len PySem.boot_len (pa_cons (pe_ix (ix_anyK (Kf := K) (by rfl)) (pv 4) (pe_un un_neg pe_int) (fun _ _ => rfl)) pa_nil)) pa_nil)))) (pss_one (ps_set (i := 7) sc__law_names.nd rfl (by first | exact .inl rfl | exact .inr rfl) (pe_op op_addA (pe_op op_addA (pe_slice sl_str (pe_ix (ix_anyK (Kf := K) (by rfl)) (pv 4) (pe_un un_neg pe_int) (fun _ _ => rfl)) po_none (po_some (pv 9))) (pe_ix (ix_anyK (Kf := K) (by rfl)) (pv 2) (pe_call (ok__law_draw T) (hr.mono (by decide)) (by rfl) T.g__law_draw T.F__law_draw.kp T.b__law_draw .nil (show Passes CX0 _ E from pass0) (pa_cons (pv 0) (pa_cons pe_int pa_nil))) (fun _ _ => rfl))) (pe_slice sl_str (pe_ix (ix_anyK (Kf := K) (by rfl)) (pv 4) (pe_un un_neg pe_int) (fun _ _ => rfl)) (po_some (pe_op op_addA (pv 9) pe_int)) po_none))))) pss_nil) (pss_cons (ps_if (pt_cmpR (op_eqM (hu_64 hr)) (pv 6) pe_int (nomark _)) (pss_one (ps_set (i := 7) sc__law_names.nd rfl (by first | exact .inl rfl | exact .inr rfl) (pe_ix (ix_anyK (Kf := K) (by rfl)) (pe_lst (pa_cons pe_str (pa_cons pe_str (pa_cons pe_str (pa_cons pe_str (pa_cons pe_str (pa_cons pe_str (pa_cons pe_str pa_nil)))))))) (pe_call (ok__law_draw T) (hr.mono (by decide)) (by rfl) T.g__law_draw T.F__law_draw.kp T.b__law_draw .nil (show Passes CX0 _ E from pass0) (pa_cons (pv 0) (pa_cons pe_int pa_nil))) (fun _ _ => rfl)))) pss_nil) (pss_cons (ps_set (i := 8) sc__law_names.nd rfl (by first | exact .inl rfl | exact .inr rfl) pe_int) (pss_cons (ps_while PassesOwn.never (pt_cmpR (op_inK (Kf := K) (by rfl)) (pv 7) (pv 4) rfl) (pss_cons (ps_set (i := 7) sc__law_names.nd rfl (by first | exact .inl rfl | exact .inr rfl) (pe_op op_mulS (pe_ix (ix_anyK (Kf := K) (by rfl)) (pv 2) (pv 8) (fun _ _ => rfl)) pe_int)) (pss_one (ps_set (i := 8) sc__law_names.nd rfl (by first | exact .inl rfl | exact .inr rfl) (pe_op op_addA (pv 8) pe_int))))) (pss_one (ps_expr (pe_bmK (Kf := K) (by rfl) PySem.F.plainAttrs_list PySem.F.slot_list_append PySem.F.type_list_append mt_append (pv 4) (pa_cons (pv 7) pa_nil)))))))))))) (pss_one (ps_ret (pv 4))))))), ?_⟩
    refine fn_body (K := K) [0] (fun _ => by show (2 : Nat) ≤ 11; decide) (fun _ => by show ∀ k ∈ ([0] : List Nat), k < 2; decide) h (fun F a hec hE hK hpv => ?_)
    obtain ⟨x_deck, x_many⟩ := a
    show RS F [] [some (deckT x_deck), some (.f x_many), none, none, none, none, none, none, none, none, none] (m__law_names x_deck x_many) _ _ _
    unfold m__law_names
    refine rs_seq ?_
    refine rs_set ?_ rfl (hpv _ (by decide))
    refine rd_str e_q_abcdefghijklmnopqrstuvwxyz ?_
    refine ⟨_, rfl, (by show (2 : Nat) < 11; decide), ?_⟩
    refine rs_at [some (deckT x_deck), some (.f x_many), some (.f (.str q_abcdefghijklmnopqrstuvwxyz)), none, none, none, none, none, none, none, none] rfl ?_
    refine rs_seq ?_
    refine rs_set ?_ rfl (hpv _ (by decide))
    refine rd_jn ?_
    refine rd_str e_qx_ ?_
    refine ⟨_, _, rfl, rfl, fun t2 _ => ?_⟩
    refine rd_lc (Z := ((List (List D) × D))) [5] (fun i hi => hi) (all1 (hpv _ (by decide))) ?_
    refine ri_range1 ?_
    refine rd_int ?_
    refine ⟨_, _, rfl, rfl, fun ds6 => ?_⟩
    refine ⟨fun z4 => [some (deckT z4), some (.f x_many), some (.f (.str q_abcdefghijklmnopqrstuvwxyz)), none, none, none, none, none, none, none, none], x_deck, _, _, rfl, ⟨.inr rfl, ⟨.inr rfl, ⟨.inr rfl, ⟨.inl rfl, ⟨.inl rfl, ⟨.inl rfl, ⟨.inl rfl, ⟨.inl rfl, ⟨.inl rfl, ⟨.inl rfl, ⟨.inl rfl, trivial⟩⟩⟩⟩⟩⟩⟩⟩⟩⟩⟩, fun _ => (by first | exact trivial | rfl | exact ⟨rfl, rfl⟩), fun _ => (all1 rfl), rfl, fun z4 d3 _ _ => ?_, fun p5 => ?_⟩
    · refine rg_name (by show (5 : Nat) < 11; decide) rfl (hpv _ (by decide)) ?_
      refine rt_true rfl ?_
      refine ⟨_, .ok (none, z4), (if_pos rfl).symm, fun _ => ?_, fun h => by cases h⟩
      refine rd_op2 o_ix ?_
      refine rd_var rfl ?_
      intro _
      refine rd_call hec hE ?_
      refine ra_cons ?_
      refine rd_ali rfl ?_
      intro _
      refine ra_cons ?_
      refine rd_int ?_
      intro _
      refine ra_nil ?_
      refine ⟨(z4, (.int 26)), _, rfl, rfl, rfl, fun r8 => ?_⟩
      refine ⟨_, _, _, rfl, rfl, rfl, fun t7 => ?_⟩
      exact ⟨_, _, rfl, rfl, ⟨.inr rfl, ⟨.inr rfl, ⟨.inr rfl, ⟨.inl rfl, ⟨.inl rfl, ⟨.inl rfl, ⟨.inl rfl, ⟨.inl rfl, ⟨.inl rfl, ⟨.inl rfl, ⟨.inl rfl, trivial⟩⟩⟩⟩⟩⟩⟩⟩⟩⟩⟩⟩
    · refine ⟨_, _, _, rfl, rfl, rfl, fun t1 => ?_⟩
      refine ⟨_, rfl, (by show (3 : Nat) < 11; decide), ?_⟩
      refine rs_at [some (deckT p5.2), some (.f x_many), some (.f (.str q_abcdefghijklmnopqrstuvwxyz)), some (.f t1), none, none, none, none, none, none, none] rfl ?_
      refine rs_seq ?_
      refine rs_set ?_ rfl (hpv _ (by decide))
      refine rd_lst ?_
      refine ra_nil ?_
      refine ⟨[], rfl, (by show (0 : Nat) ≤ 1000; decide), ?_⟩
      refine ⟨_, rfl, (by show (4 : Nat) < 11; decide), ?_⟩
      refine rs_at [some (deckT p5.2), some (.f x_many), some (.f (.str q_abcdefghijklmnopqrstuvwxyz)), some (.f t1), some (.l []), none, none, none, none, none, none] rfl ?_
      refine rs_seq ?_
      refine rs_forN (Z := (((List (List D) × D)) × (List D))) [5] ?_
      refine ri_range1 ?_
      refine rd_var rfl ?_
      refine ⟨_, _, rfl, rfl, fun ds11 => ?_⟩
      refine ⟨fun z10 => [some (deckT z10.1), some (.f x_many), some (.f (.str q_abcdefghijklmnopqrstuvwxyz)), some (.f t1), some (.l z10.2), none, none, none, none, none, none], _, _, _, rfl, ⟨.inr rfl, ⟨.inr rfl, ⟨.inr rfl, ⟨.inr rfl, ⟨.inr rfl, ⟨.inl rfl, ⟨.inl rfl, ⟨.inl rfl, ⟨.inl rfl, ⟨.inl rfl, ⟨.inl rfl, trivial⟩⟩⟩⟩⟩⟩⟩⟩⟩⟩⟩, fun _ => (by first | exact trivial | rfl | exact ⟨rfl, rfl⟩), fun z10 d9 => ?_, fun z10 => ?_⟩
      · refine rg_name (by show (5 : Nat) < 11; decide) rfl (hpv _ (by decide)) ?_
        refine rs_at [some (deckT z10.1), some (.f x_many), some (.f (.str q_abcdefghijklmnopqrstuvwxyz)), some (.f t1), some (.l z10.2), some (.f d9), none, none, none, none, none] rfl ?_
        refine rs_seq ?_
        refine rs_set ?_ rfl (hpv _ (by decide))
        refine rd_call hec hE ?_
        refine ra_cons ?_
        refine rd_ali rfl ?_
        intro _
        refine ra_cons ?_
        refine rd_int ?_
        intro _
        refine ra_nil ?_
        refine ⟨(z10.1, (.int 4)), _, rfl, rfl, rfl, fun r12 => ?_⟩
        refine ⟨_, rfl, (by show (6 : Nat) < 11; decide), ?_⟩
        refine rs_at [some (deckT r12.2), some (.f x_many), some (.f (.str q_abcdefghijklmnopqrstuvwxyz)), some (.f t1), some (.l z10.2), some (.f d9), some (.f r12.1), none, none, none, none] rfl ?_
        refine rs_seq ?_
        refine rs_set ?_ rfl (hpv _ (by decide))
        refine rd_jn ?_
        refine rd_str e_qx_ ?_
        refine ⟨_, _, rfl, rfl, fun t14 _ => ?_⟩
        refine rd_lc (Z := ((List (List D) × D))) [10] (fun i hi => hi) (all1 (hpv _ (by decide))) ?_
        refine ri_range1 ?_
        refine rd_op2 o_add ?_
        refine rd_int ?_
        intro _
        refine rd_call hec hE ?_
        refine ra_cons ?_
        refine rd_ali rfl ?_
        intro _
        refine ra_cons ?_
        refine rd_int ?_
        intro _
        refine ra_nil ?_
        refine ⟨(r12.2, (.int 8)), _, rfl, rfl, rfl, fun r20 => ?_⟩
        refine ⟨_, _, _, rfl, rfl, rfl, fun t19 => ?_⟩
        refine ⟨_, _, rfl, rfl, fun ds18 => ?_⟩
        refine ⟨fun z16 => [some (deckT z16), some (.f x_many), some (.f (.str q_abcdefghijklmnopqrstuvwxyz)), some (.f t1), some (.l z10.2), some (.f d9), some (.f r12.1), none, none, none, none], r20.2, _, _, rfl, ⟨.inr rfl, ⟨.inr rfl, ⟨.inr rfl, ⟨.inr rfl, ⟨.inr rfl, ⟨.inr rfl, ⟨.inr rfl, ⟨.inl rfl, ⟨.inl rfl, ⟨.inl rfl, ⟨.inl rfl, trivial⟩⟩⟩⟩⟩⟩⟩⟩⟩⟩⟩, fun _ => (by first | exact trivial | rfl | exact ⟨rfl, rfl⟩), fun _ => (all1 rfl), rfl, fun z16 d15 _ _ => ?_, fun p17 => ?_⟩
        · refine rg_name (by show (10 : Nat) < 11; decide) rfl (hpv _ (by decide)) ?_
          refine rt_true rfl ?_
          refine ⟨_, .ok (none, z16), (if_pos rfl).symm, fun _ => ?_, fun h => by cases h⟩
          refine rd_op2 o_ix ?_
          refine rd_var rfl ?_
          intro _
          refine rd_call hec hE ?_
          refine ra_cons ?_
          refine rd_ali rfl ?_
          intro _
          refine ra_cons ?_
          refine rd_int ?_
          intro _
          refine ra_nil ?_
          refine ⟨(z16, (.int 26)), _, rfl, rfl, rfl, fun r22 => ?_⟩
          refine ⟨_, _, _, rfl, rfl, rfl, fun t21 => ?_⟩
          exact ⟨_, _, rfl, rfl, ⟨.inr rfl, ⟨.inr rfl, ⟨.inr rfl, ⟨.inr rfl, ⟨.inr rfl, ⟨.inr rfl, ⟨.inr rfl, ⟨.inl rfl, ⟨.inl rfl, ⟨.inl rfl, ⟨.inl rfl, trivial⟩⟩⟩⟩⟩⟩⟩⟩⟩⟩⟩⟩
        · refine ⟨_, _, _, rfl, rfl, rfl, fun t13 => ?_⟩
          refine ⟨_, rfl, (by show (7 : Nat) < 11; decide), ?_⟩
          refine rs_at [some (deckT p17.2), some (.f x_many), some (.f (.str q_abcdefghijklmnopqrstuvwxyz)), some (.f t1), some (.l z10.2), some (.f d9), some (.f r12.1), some (.f t13), none, none, none] rfl ?_
          refine rs_seq ?_
          refine rs_join (Z := (D × ((List (List D) × D)))) (fun z30 => [some (deckT z30.2), some (.f x_many), some (.f (.str q_abcdefghijklmnopqrstuvwxyz)), some (.f t1), some (.l z10.2), some (.f d9), some (.f r12.1), some (.f z30.1), none, none, none]) _ _ rfl ?_ (fun z30 => ?_)
          · refine rs_if ?_
            refine rt_op2B o_eq ?_
            refine rd_var rfl ?_
            intro _
            refine rd_int ?_
            refine ⟨_, _, _, rfl, rfl, rfl, fun t31 => ?_⟩
            refine ⟨_, _, rfl, fun _ => ?_, fun _ => ?_⟩
            · refine rs_set ?_ rfl (hpv _ (by decide))
              refine rd_op2 o_add ?_
              refine rd_slS ?_
              refine rd_var rfl ?_
              intro _
              refine ro_none ?_
              refine ro_some ?_
              refine rd_call hec hE ?_
              refine ra_cons ?_
              refine rd_ali rfl ?_
              intro _
              refine ra_cons ?_
              refine rd_int ?_
              intro _
              refine ra_nil ?_
              refine ⟨(p17.2, (.int 8)), _, rfl, rfl, rfl, fun r35 => ?_⟩
              refine ⟨_, _, rfl, rfl, fun t34 => ?_⟩
              refine ⟨_, _, rfl, rfl, fun t33 => ?_⟩
              intro _
              refine rd_op2 o_ix ?_
              refine rd_var rfl ?_
              intro _
              refine rd_call hec hE ?_
              refine ra_cons ?_
              refine rd_ali rfl ?_
              intro _
              refine ra_cons ?_
              refine rd_int ?_
              intro _
              refine ra_nil ?_
              refine ⟨(r35.2, (.int 26)), _, rfl, rfl, rfl, fun r37 => ?_⟩
              refine ⟨_, _, _, rfl, rfl, rfl, fun t36 => ?_⟩
              refine ⟨_, _, _, rfl, rfl, rfl, fun t32 => ?_⟩
              refine ⟨_, rfl, (by show (7 : Nat) < 11; decide), ?_⟩
              exact ⟨_, rfl, ⟨.inr rfl, ⟨.inr rfl, ⟨.inr rfl, ⟨.inr rfl, ⟨.inr rfl, ⟨.inr rfl, ⟨.inr rfl, ⟨.inr rfl, ⟨.inl rfl, ⟨.inl rfl, ⟨.inl rfl, trivial⟩⟩⟩⟩⟩⟩⟩⟩⟩⟩⟩⟩
            · refine rs_next ?_
              exact ⟨_, rfl, ⟨.inr rfl, ⟨.inr rfl, ⟨.inr rfl, ⟨.inr rfl, ⟨.inr rfl, ⟨.inr rfl, ⟨.inr rfl, ⟨.inr rfl, ⟨.inl rfl, ⟨.inl rfl, ⟨.inl rfl, trivial⟩⟩⟩⟩⟩⟩⟩⟩⟩⟩⟩⟩
          · refine rs_at [some (deckT z30.2), some (.f x_many), some (.f (.str q_abcdefghijklmnopqrstuvwxyz)), some (.f t1), some (.l z10.2), some (.f d9), some (.f r12.1), some (.f z30.1), none, none, none] rfl ?_
            refine rs_seq ?_
            refine rs_join (Z := (((List (List D) × D)) × D)) (fun z58 => [some (deckT z58.1), some (.f x_many), some (.f (.str q_abcdefghijklmnopqrstuvwxyz)), some (.f t1), some (.l z10.2), some (.f d9), some (.f r12.1), some (.f z58.2), none, none, none]) _ _ rfl ?_ (fun z58 => ?_)
            · refine rs_if ?_
              refine rt_and (Z := Unit) ?_
              refine rt_op2B o_eq ?_
              refine rd_var rfl ?_
              intro _
              refine rd_int ?_
              refine ⟨_, _, _, rfl, rfl, rfl, fun t60 => ?_⟩
              refine ⟨fun z => [some (deckT z30.2), some (.f x_many), some (.f (.str q_abcdefghijklmnopqrstuvwxyz)), some (.f t1), some (.l z10.2), some (.f d9), some (.f r12.1), some (.f z30.1), none, none, none], (), _, _, rfl, ⟨.inr rfl, ⟨.inr rfl, ⟨.inr rfl, ⟨.inr rfl, ⟨.inr rfl, ⟨.inr rfl, ⟨.inr rfl, ⟨.inr rfl, ⟨.inl rfl, ⟨.inl rfl, ⟨.inl rfl, trivial⟩⟩⟩⟩⟩⟩⟩⟩⟩⟩⟩, fun _ => ?_, fun p59 => ?_⟩
              · refine rt_op2B o_ne ?_
                refine rd_ali rfl ?_
                intro _
                refine rd_lst ?_
                refine ra_nil ?_
                refine ⟨[], rfl, (by show (0 : Nat) ≤ 1000; decide), ?_⟩
                refine ⟨_, _, _, rfl, rfl, rfl, fun t61 => ?_⟩
                exact ⟨_, rfl, ⟨.inr rfl, ⟨.inr rfl, ⟨.inr rfl, ⟨.inr rfl, ⟨.inr rfl, ⟨.inr rfl, ⟨.inr rfl, ⟨.inr rfl, ⟨.inl rfl, ⟨.inl rfl, ⟨.inl rfl, trivial⟩⟩⟩⟩⟩⟩⟩⟩⟩⟩⟩⟩
              · refine ⟨_, _, rfl, fun _ => ?_, fun _ => ?_⟩
                · refine rs_seq ?_
                  refine rs_set ?_ rfl (hpv _ (by decide))
                  refine rd_call hec hE ?_
                  refine ra_cons ?_
                  refine rd_ali rfl ?_
                  intro _
                  refine ra_cons ?_
                  refine rd_cb1 o_len ?_
                  refine rd_op2 o_ix ?_
                  refine rd_ali rfl ?_
                  intro _
                  refine rd_un o_neg ?_
                  refine rd_int ?_
                  refine ⟨_, _, rfl, rfl, fun t65 => ?_⟩
                  refine ⟨_, _, _, rfl, rfl, rfl, fun t64 => ?_⟩
                  refine ⟨_, _, rfl, rfl, fun t63 => ?_⟩
                  intro _
                  refine ra_nil ?_
                  refine ⟨(z30.2, t63), _, rfl, rfl, rfl, fun r62 => ?_⟩
                  refine ⟨_, rfl, (by show (9 : Nat) < 11; decide), ?_⟩
                  refine rs_at [some (deckT r62.2), some (.f x_many), some (.f (.str q_abcdefghijklmnopqrstuvwxyz)), some (.f t1), some (.l z10.2), some (.f d9), some (.f r12.1), some (.f z30.1), none, some (.f r62.1), none] rfl ?_
                  refine rs_set ?_ rfl (hpv _ (by decide))
                  refine rd_op2 o_add ?_
                  refine rd_op2 o_add ?_
                  refine rd_slS ?_
                  refine rd_op2 o_ix ?_
                  refine rd_ali rfl ?_
                  intro _
                  refine rd_un o_neg ?_
                  refine rd_int ?_
                  refine ⟨_, _, rfl, rfl, fun t70 => ?_⟩
                  refine ⟨_, _, _, rfl, rfl, rfl, fun t69 => ?_⟩
                  intro _
                  refine ro_none ?_
                  refine ro_some ?_
                  refine rd_var rfl ?_
                  refine ⟨_, _, rfl, rfl, fun t71 => ?_⟩
                  refine ⟨_, _, rfl, rfl, fun t68 => ?_⟩
                  intro _
                  refine rd_op2 o_ix ?_
                  refine rd_var rfl ?_
                  intro _
                  refine rd_call hec hE ?_
                  refine ra_cons ?_
                  refine rd_ali rfl ?_
                  intro _
                  refine ra_cons ?_
                  refine rd_int ?_
                  intro _
                  refine ra_nil ?_
                  refine ⟨(r62.2, (.int 26)), _, rfl, rfl, rfl, fun r73 => ?_⟩
                  refine ⟨_, _, _, rfl, rfl, rfl, fun t72 => ?_⟩
                  refine ⟨_, _, _, rfl, rfl, rfl, fun t67 => ?_⟩
                  intro _
                  refine rd_slS ?_
                  refine rd_op2 o_ix ?_
                  refine rd_ali rfl ?_
                  intro _
                  refine rd_un o_neg ?_
                  refine rd_int ?_
                  refine ⟨_, _, rfl, rfl, fun t76 => ?_⟩
                  refine ⟨_, _, _, rfl, rfl, rfl, fun t75 => ?_⟩
                  intro _
                  refine ro_some ?_
                  refine rd_op2 o_add ?_
                  refine rd_var rfl ?_
                  intro _
                  refine rd_int ?_
                  refine ⟨_, _, _, rfl, rfl, rfl, fun t78 => ?_⟩
                  refine ⟨_, _, rfl, rfl, fun t77 => ?_⟩
                  refine ro_none ?_
                  refine ⟨_, _, rfl, rfl, fun t74 => ?_⟩
                  refine ⟨_, _, _, rfl, rfl, rfl, fun t66 => ?_⟩
                  refine ⟨_, rfl, (by show (7 : Nat) < 11; decide), ?_⟩
                  exact ⟨_, rfl, ⟨.inr rfl, ⟨.inr rfl, ⟨.inr rfl, ⟨.inr rfl, ⟨.inr rfl, ⟨.inr rfl, ⟨.inr rfl, ⟨.inr rfl, ⟨.inl rfl, ⟨.inl rfl, ⟨.inl rfl, trivial⟩⟩⟩⟩⟩⟩⟩⟩⟩⟩⟩⟩
                · refine rs_next ?_
                  exact ⟨_, rfl, ⟨.inr rfl, ⟨.inr rfl, ⟨.inr rfl, ⟨.inr rfl, ⟨.inr rfl, ⟨.inr rfl, ⟨.inr rfl, ⟨.inr rfl, ⟨.inl rfl, ⟨.inl rfl, ⟨.inl rfl, trivial⟩⟩⟩⟩⟩⟩⟩⟩⟩⟩⟩⟩
            · refine rs_at [some (deckT z58.1), some (.f x_many), some (.f (.str q_abcdefghijklmnopqrstuvwxyz)), some (.f t1), some (.l z10.2), some (.f d9), some (.f r12.1), some (.f z58.2), none, none, none] rfl ?_
              refine rs_seq ?_
              refine rs_join (Z := (D × ((List (List D) × D)))) (fun z82 => [some (deckT z82.2), some (.f x_many), some (.f (.str q_abcdefghijklmnopqrstuvwxyz)), some (.f t1), some (.l z10.2), some (.f d9), some (.f r12.1), some (.f z82.1), none, none, none]) _ _ rfl ?_ (fun z82 => ?_)
              · refine rs_if ?_
                refine rt_op2B o_eq ?_
                refine rd_var rfl ?_
                intro _
                refine rd_int ?_
                refine ⟨_, _, _, rfl, rfl, rfl, fun t83 => ?_⟩
                refine ⟨_, _, rfl, fun _ => ?_, fun _ => ?_⟩
                · refine rs_set ?_ rfl (hpv _ (by decide))
                  refine rd_op2 o_ix ?_
                  refine rd_lst ?_
                  refine ra_cons ?_
                  refine rd_str e_q_a ?_
                  intro _
                  refine ra_cons ?_
                  refine rd_str e_q_wire ?_
                  intro _
                  refine ra_cons ?_
                  refine rd_str e_q_not ?_
                  intro _
                  refine ra_cons ?_
                  refine rd_str e_q_and ?_
                  intro _
                  refine ra_cons ?_
                  refine rd_str e_q_or ?_
                  intro _
                  refine ra_cons ?_
                  refine rd_str e_q_zzzzzzzz ?_
                  intro _
                  refine ra_cons ?_
                  refine rd_str e_q_in ?_
                  intro _
                  refine ra_nil ?_
                  refine ⟨[(.str q_a), (.str q_wire), (.str q_not), (.str q_and), (.str q_or), (.str q_zzzzzzzz), (.str q_in)], rfl, (by show (7 : Nat) ≤ 1000; decide), ?_⟩
                  intro _
                  refine rd_call hec hE ?_
                  refine ra_cons ?_
                  refine rd_ali rfl ?_
                  intro _
                  refine ra_cons ?_
                  refine rd_int ?_
                  intro _
                  refine ra_nil ?_
                  refine ⟨(z58.1, (.int 7)), _, rfl, rfl, rfl, fun r85 => ?_⟩
                  refine ⟨_, _, _, rfl, rfl, rfl, fun t84 => ?_⟩
                  refine ⟨_, rfl, (by show (7 : Nat) < 11; decide), ?_⟩
                  exact ⟨_, rfl, ⟨.inr rfl, ⟨.inr rfl, ⟨.inr rfl, ⟨.inr rfl, ⟨.inr rfl, ⟨.inr rfl, ⟨.inr rfl, ⟨.inr rfl, ⟨.inl rfl, ⟨.inl rfl, ⟨.inl rfl, trivial⟩⟩⟩⟩⟩⟩⟩⟩⟩⟩⟩⟩
                · refine rs_next ?_
                  exact ⟨_, rfl, ⟨.inr rfl, ⟨.inr rfl, ⟨.inr rfl, ⟨.inr rfl, ⟨.inr rfl, ⟨.inr rfl, ⟨.inr rfl, ⟨.inr rfl, ⟨.inl rfl, ⟨.inl rfl, ⟨.inl rfl, trivial⟩⟩⟩⟩⟩⟩⟩⟩⟩⟩⟩⟩
              · refine rs_at [some (deckT z82.2), some (.f x_many), some (.f (.str q_abcdefghijklmnopqrstuvwxyz)), some (.f t1), some (.l z10.2), some (.f d9), some (.f r12.1), some (.f z82.1), none, none, none] rfl ?_
                refine rs_seq ?_
                refine rs_set ?_ rfl (hpv _ (by decide))
                refine rd_int ?_
                refine ⟨_, rfl, (by show (8 : Nat) < 11; decide), ?_⟩
                refine rs_at [some (deckT z82.2), some (.f x_many), some (.f (.str q_abcdefghijklmnopqrstuvwxyz)), some (.f t1), some (.l z10.2), some (.f d9), some (.f r12.1), some (.f z82.1), some (.f (.int 0)), none, none] rfl ?_
                refine rs_seq ?_
                refine rs_whileN FU (fun z86 => [some (deckT z82.2), some (.f x_many), some (.f (.str q_abcdefghijklmnopqrstuvwxyz)), some (.f t1), some (.l z10.2), some (.f d9), some (.f r12.1), some (.f z86.1), some (.f z86.2), none, none]) _ _ _ _ rfl ⟨.inr rfl, ⟨.inr rfl, ⟨.inr rfl, ⟨.inr rfl, ⟨.inr rfl, ⟨.inr rfl, ⟨.inr rfl, ⟨.inr rfl, ⟨.inr rfl, ⟨.inl rfl, ⟨.inl rfl, trivial⟩⟩⟩⟩⟩⟩⟩⟩⟩⟩⟩ (fun z86 => ?_) (fun z86 => ?_) (fun z86 => ?_)
                · refine rt_op2B o_in ?_
                  refine rd_var rfl ?_
                  intro _
                  refine rd_ali rfl ?_
                  refine ⟨_, _, _, rfl, rfl, rfl, fun t87 => ?_⟩
                  exact ⟨rfl, ⟨.inr rfl, ⟨.inr rfl, ⟨.inr rfl, ⟨.inr rfl, ⟨.inr rfl, ⟨.inr rfl, ⟨.inr rfl, ⟨.inr rfl, ⟨.inr rfl, ⟨.inl rfl, ⟨.inl rfl, trivial⟩⟩⟩⟩⟩⟩⟩⟩⟩⟩⟩⟩
                · refine rs_seq ?_
                  refine rs_set ?_ rfl (hpv _ (by decide))
                  refine rd_op2 o_mulS ?_
                  refine rd_op2 o_ix ?_
                  refine rd_var rfl ?_
                  intro _
                  refine rd_var rfl ?_
                  refine ⟨_, _, _, rfl, rfl, rfl, fun t89 => ?_⟩
                  intro _
                  refine rd_int ?_
                  refine ⟨_, _, _, rfl, rfl, rfl, fun t88 => ?_⟩
                  refine ⟨_, rfl, (by show (7 : Nat) < 11; decide), ?_⟩
                  refine rs_at [some (deckT z82.2), some (.f x_many), some (.f (.str q_abcdefghijklmnopqrstuvwxyz)), some (.f t1), some (.l z10.2), some (.f d9), some (.f r12.1), some (.f t88), some (.f z86.2), none, none] rfl ?_
                  refine rs_set ?_ rfl (hpv _ (by decide))
                  refine rd_op2 o_add ?_
                  refine rd_var rfl ?_
                  intro _
                  refine rd_int ?_
                  refine ⟨_, _, _, rfl, rfl, rfl, fun t90 => ?_⟩
                  refine ⟨_, rfl, (by show (8 : Nat) < 11; decide), ?_⟩
                  exact ⟨_, rfl, ⟨.inr rfl, ⟨.inr rfl, ⟨.inr rfl, ⟨.inr rfl, ⟨.inr rfl, ⟨.inr rfl, ⟨.inr rfl, ⟨.inr rfl, ⟨.inr rfl, ⟨.inl rfl, ⟨.inl rfl, trivial⟩⟩⟩⟩⟩⟩⟩⟩⟩⟩⟩⟩
                · refine rs_at [some (deckT z82.2), some (.f x_many), some (.f (.str q_abcdefghijklmnopqrstuvwxyz)), some (.f t1), some (.l z10.2), some (.f d9), some (.f r12.1), some (.f z86.1), some (.f z86.2), none, none] rfl ?_
                  refine rs_drop ?_
                  refine rd_append ?_
                  refine rd_ali rfl ?_
                  refine ⟨4, _, rfl, rfl, fun _ => ?_⟩
                  refine rd_var rfl ?_
                  refine ⟨_, _, _, rfl, rfl, rfl, fun t91 => ?_⟩
                  exact ⟨_, rfl, ⟨.inr rfl, ⟨.inr rfl, ⟨.inr rfl, ⟨.inr rfl, ⟨.inr rfl, ⟨.inl rfl, ⟨.inl rfl, ⟨.inl rfl, ⟨.inl rfl, ⟨.inl rfl, ⟨.inl rfl, trivial⟩⟩⟩⟩⟩⟩⟩⟩⟩⟩⟩⟩
      · refine rs_at [some (deckT z10.1), some (.f x_many), some (.f (.str q_abcdefghijklmnopqrstuvwxyz)), some (.f t1), some (.l z10.2), none, none, none, none, none, none] rfl ?_
        refine rs_ret ?_
        refine rd_mv rfl ?_
        refine ⟨_, rfl, ?_⟩
        exact ⟨_, rfl, rfl, ⟨rfl, by decide, trivial⟩⟩
theorem ok__law_held (T : Tx K mg) : FnOk P w K mg base CX0 1 T.a__law_held T.d__law_held ["one", "other", "own"] (spOf (A := D × D × D) (R := D) EC.ec (fun a => [.f a.1, .f a.2.1, .f a.2.2]) (fun a => m__law_held a.1 a.2.1 a.2.2) (fun r => .f r) (fun r => [none, none, none])) := by
  refine T.F__law_held.ok sc__law_held (fun vs H Q E h => ?_) (fun cdv A outer s H vs Q E hr h => ?_)
  · obtain ⟨a, G, w, _, _, hl, _⟩ := h; exact hl
  · refine ⟨_, (pss_one (ps_ret (pe_tup (pa_cons pe_str (pa_cons (pe_tup (pa_cons pe_str (pa_cons (pv 0) (pa_cons (pv 1) pa_nil)))) (pa_cons (pe_tup (pa_cons pe_str (pa_cons (pv 2) (pa_cons (pe_tup (pa_cons pe_str (pa_cons (pv 0) (pa_cons (pv 1) pa_nil)))) pa_nil)))) pa_nil)))))), ?_⟩
    refine fn_body (K := K) [] (fun _ => by show (3 : Nat) ≤ 3; decide) (fun _ => by show ∀ k ∈ ([] : List Nat), k < 3; decide) h (fun F a hec hE hK hpv => ?_)
    obtain ⟨x_one, x_other, x_own⟩ := a
    show RS F [] [some (.f x_one), some (.f x_other), some (.f x_own)] (m__law_held x_one x_other x_own) _ _ _
    unfold m__law_held
    refine rs_ret ?_
    refine rd_tup ?_
    refine ra_cons ?_
    refine rd_str e_q_or ?_
    intro _
    refine ra_cons ?_
    refine rd_tup ?_
    refine ra_cons ?_
    refine rd_str e_q_and ?_
    intro _
    refine ra_cons ?_
    refine rd_var rfl ?_
    intro _
    refine ra_cons ?_
    refine rd_var rfl ?_
    intro _
    refine ra_nil ?_
    refine ⟨[(.str q_and), x_one, x_other], rfl, (by show (3 : Nat) ≤ 1000; decide), ?_⟩
    intro _
    refine ra_cons ?_
    refine rd_tup ?_
    refine ra_cons ?_
    refine rd_str e_q_and ?_
    intro _
    refine ra_cons ?_
    refine rd_var rfl ?_
    intro _
    refine ra_cons ?_
    refine rd_tup ?_
    refine ra_cons ?_
    refine rd_str e_q_or ?_
    intro _
    refine ra_cons ?_
    refine rd_var rfl ?_
    intro _
    refine ra_cons ?_
    refine rd_var rfl ?_
    intro _
    refine ra_nil ?_
    refine ⟨[(.str q_or), x_one, x_other], rfl, (by show (3 : Nat) ≤ 1000; decide), ?_⟩
    intro _
    refine ra_nil ?_
    refine ⟨[(.str q_and), x_own, (.tup [(.str q_or), x_one, x_other])], rfl, (by show (3 : Nat) ≤ 1000; decide), ?_⟩
    intro _
    refine ra_nil ?_
    refine ⟨[(.str q_or), (.tup [(.str q_and), x_one, x_other]), (.tup [(.str q_and), x_own, (.tup [(.str q_or), x_one, x_other])])], rfl, (by show (3 : Nat) ≤ 1000; decide), ?_⟩
    refine ⟨_, rfl, ?_⟩
    exact ⟨_, rfl, rfl, trivial⟩
theorem ok__law_known (T : Tx K mg) : FnOk P w K mg base CX0 2 T.a__law_known T.d__law_known ["deck"] (spOf (A := ((List (List D) × D))) (R := D × ((List (List D) × D))) EC.ec (fun a => [deckT a]) (fun a => m__law_known a) (fun r => .f r.1) (fun r => [some (deckT r.2)])) := by
  refine T.F__law_known.ok sc__law_known (fun vs H Q E h => ?_) (fun cdv A outer s H vs Q E hr h => ?_)
  · obtain ⟨a, G, w, _, _, hl, _⟩ := h; exact hl
  · refine ⟨_, (pss_cons (ps_set (i := 1) sc__law_known.nd rfl (by first | exact .inl rfl | exact .inr rfl) (pe_call (ok__law_draw T) (hr.mono (by decide)) (by rfl) T.g__law_draw T.F__law_draw.kp T.b__law_draw .nil (show Passes CX0 _ E from pass0) (pa_cons (pv 0) (pa_cons pe_int pa_nil)))) (pss_cons (ps_asg (pe_lc (own := [("name", 8)]) rfl (by exact sc__law_known.nd) (pi_listK (Kf := K) (by rfl) (pe_lst (pa_cons pe_str (pa_cons pe_str (pa_cons pe_str (pa_cons pe_str (pa_cons pe_str pa_nil))))))) blk__law_known_0 (fun _ _ _ _ _ => (pg_name (i := 8) sc__law_known.nd rfl (by first | exact .inl rfl | exact .inr rfl))) (fun _ _ _ _ _ => pts_nil) (fun _ _ _ _ _ => (pe_tup (pa_cons pe_str (pa_cons (pv 8) pa_nil))))) (pg_lstK (Kf := K) (n := 5) (by rfl) rfl (pgs_cons (pg_name (i := 3) sc__law_known.nd rfl (by first | exact .inl rfl | exact .inr rfl)) (pgs_cons (pg_name (i := 4) sc__law_known.nd rfl (by first | exact .inl rfl | exact .inr rfl)) (pgs_cons (pg_name (i := 5) sc__law_known.nd rfl (by first | exact .inl rfl | exact .inr rfl)) (pgs_cons (pg_name (i := 6) sc__law_known.nd rfl (by first | exact .inl rfl | exact .inr rfl)) (pgs_cons (pg_name (i := 7) sc__law_known.nd rfl (by first | exact .inl rfl | exact .inr rfl)) pgs_nil))))))) (pss_cons (ps_if (pt_cmpR (op_eqM (hu_64 hr)) (pv 1) pe_int (nomark _)) (pss_one (ps_ret (pe_tup (pa_cons (pe_lst (pa_cons pe_str (pa_cons pe_str pa_nil))) (pa_cons (pe_lst (pa_cons (pe_tup (pa_cons pe_str (pa_cons (pe_call (ok__law_held T) (hr.mono (by decide)) (by rfl) T.g__law_held T.F__law_held.kp T.b__law_held .nil (show Passes CX0 _ E from pass0) (pa_cons (pv 3) (pa_cons (pv 4) (pa_cons (pv 5) pa_nil)))) pa_nil))) pa_nil)) pa_nil))))) pss_nil) (pss_cons (ps_if (pt_cmpR (op_eqM (hu_64 hr)) (pv 1) pe_int (nomark _)) (pss_one (ps_ret (pe_tup (pa_cons (pe_lst pa_nil) (pa_cons (pe_lst (pa_cons (pe_tup (pa_cons pe_str (pa_cons (pe_tup (pa_cons pe_str (pa_cons (pv 5) pa_nil))) pa_nil))) (pa_cons (pe_tup (pa_cons pe_str (pa_cons (pe_tup (pa_cons pe_str (pa_cons (pv 3) pa_nil))) pa_nil))) (pa_cons (pe_tup (pa_cons pe_str (pa_cons (pe_tup (pa_cons pe_str (pa_cons (pv 4) pa_nil))) pa_nil))) pa_nil)))) pa_nil))))) pss_nil) (pss_cons (ps_if (pt_cmpR (op_eqM (hu_64 hr)) (pv 1) pe_int (nomark _)) (pss_one (ps_ret (pe_tup (pa_cons (pe_lst (pa_cons pe_str (pa_cons pe_str pa_nil))) (pa_cons (pe_lst (pa_cons (pe_tup (pa_cons pe_str (pa_cons (pe_tup (pa_cons pe_str (pa_cons (pe_tup (pa_cons pe_str (pa_cons (pv 3) (pa_cons (pv 6) pa_nil)))) pa_nil))) pa_nil))) (pa_cons (pe_tup (pa_cons pe_str (pa_cons (pe_tup (pa_cons pe_str (pa_cons (pe_tup (pa_cons pe_str (pa_cons (pv 4) (pa_cons (pv 5) pa_nil)))) pa_nil))) pa_nil))) pa_nil))) pa_nil))))) pss_nil) (pss_cons (ps_set (i := 2) sc__law_known.nd rfl (by first | exact .inl rfl | exact .inr rfl) (pe_lst (pa_cons (pe_tup (pa_cons pe_str (pa_cons (pe_call (ok__law_held T) (hr.mono (by decide)) (by rfl) T.g__law_held T.F__law_held.kp T.b__law_held .nil (show Passes CX0 _ E from pass0) (pa_cons (pv 3) (pa_cons (pe_tup (pa_cons pe_str (pa_cons (pv 5) pa_nil))) (pa_cons (pv 4) pa_nil)))) pa_nil))) (pa_cons (pe_tup (pa_cons pe_str (pa_cons (pe_call (ok__law_held T) (hr.mono (by decide)) (by rfl) T.g__law_held T.F__law_held.kp T.b__law_held .nil (show Passes CX0 _ E from pass0) (pa_cons (pv 4) (pa_cons (pe_tup (pa_cons pe_str (pa_cons (pv 6) pa_nil))) (pa_cons (pv 5) pa_nil)))) pa_nil))) pa_nil)))) (pss_cons (ps_expr (pe_bmK (Kf := K) (by rfl) PySem.F.plainAttrs_list PySem.F.slot_list_append PySem.F.type_list_append mt_append (pv 2) (pa_cons (pe_tup (pa_cons pe_str (pa_cons (pe_call (ok__law_held T) (hr.mono (by decide)) (by rfl) T.g__law_held T.F__law_held.kp T.b__law_held .nil (show Passes CX0 _ E from pass0) (pa_cons (pv 5) (pa_cons (pe_tup (pa_cons pe_str (pa_cons (pv 7) pa_nil))) (pa_cons (pv 6) pa_nil)))) pa_nil))) pa_nil))) (pss_one (ps_ret (pe_tup (pa_cons (pe_lst (pa_cons pe_str (pa_cons pe_str pa_nil))) (pa_cons (pv 2) pa_nil)))))))))))), ?_⟩
    refine fn_body (K := K) [0] (fun _ => by show (1 : Nat) ≤ 9; decide) (fun _ => by show ∀ k ∈ ([0] : List Nat), k < 1; decide) h (fun F x_deck hec hE hK hpv => ?_)
    skip
    show RS F [] [some (deckT x_deck), none, none, none, none, none, none, none, none] (m__law_known x_deck) _ _ _
    unfold m__law_known
    refine rs_seq ?_
    refine rs_set ?_ rfl (hpv _ (by decide))
    refine rd_call hec hE ?_
    refine ra_cons ?_
    refine rd_ali rfl ?_
    intro _
    refine ra_cons ?_
    refine rd_int ?_
    intro _
    refine ra_nil ?_
    refine ⟨(x_deck, (.int 4)), _, rfl, rfl, rfl, fun r1 => ?_⟩
    refine ⟨_, rfl, (by show (1 : Nat) < 9; decide), ?_⟩
    refine rs_at [some (deckT r1.2), some (.f r1.1), none, none, none, none, none, none, none] rfl ?_
    refine rs_seq ?_
    refine rs_asgG [3, 4, 5, 6, 7] ?_
    refine rd_fz ?_
    refine rd_lcR [8] (fun i hi => hi) (all1 (hpv _ (by decide))) ?_
    refine ri_lst ?_
    refine rd_lst ?_
    refine ra_cons ?_
    refine rd_str e_q_a ?_
    intro _
    refine ra_cons ?_
    refine rd_str e_q_b ?_
    intro _
    refine ra_cons ?_
    refine rd_str e_q_c ?_
    intro _
    refine ra_cons ?_
    refine rd_str e_q_d ?_
    intro _
    refine ra_cons ?_
    refine rd_str e_q_e ?_
    intro _
    refine ra_nil ?_
    refine ⟨[(.str q_a), (.str q_b), (.str q_c), (.str q_d), (.str q_e)], rfl, (by show (5 : Nat) ≤ 1000; decide), ?_⟩
    refine ⟨_, _, rfl, rfl, fun ds4 _ => ?_⟩
    refine ⟨[some (deckT r1.2), some (.f r1.1), none, none, none, none, none, none, none], _, _, rfl, ⟨.inr rfl, ⟨.inr rfl, ⟨.inl rfl, ⟨.inl rfl, ⟨.inl rfl, ⟨.inl rfl, ⟨.inl rfl, ⟨.inl rfl, ⟨.inl rfl, trivial⟩⟩⟩⟩⟩⟩⟩⟩⟩, (by first | exact trivial | rfl | exact ⟨rfl, rfl⟩), (all1 rfl), rfl, fun d2 _ _ => ?_, fun ys3 => ?_⟩
    · refine rg_name (by show (8 : Nat) < 9; decide) rfl (hpv _ (by decide)) ?_
      refine rt_true rfl ?_
      refine ⟨_, .ok none, (if_pos rfl).symm, fun _ => ?_, fun h => by cases h⟩
      refine rd_tup ?_
      refine ra_cons ?_
      refine rd_str e_q_wire ?_
      intro _
      refine ra_cons ?_
      refine rd_var rfl ?_
      intro _
      refine ra_nil ?_
      refine ⟨[(.str q_wire), d2], rfl, (by show (2 : Nat) ≤ 1000; decide), ?_⟩
      exact ⟨_, rfl, rfl, ⟨.inr rfl, ⟨.inr rfl, ⟨.inl rfl, ⟨.inl rfl, ⟨.inl rfl, ⟨.inl rfl, ⟨.inl rfl, ⟨.inl rfl, ⟨.inl rfl, trivial⟩⟩⟩⟩⟩⟩⟩⟩⟩⟩
    · refine ⟨_, rfl, ?_⟩
      refine ⟨_, rfl, ?_⟩
      refine rg_lN (fun l => [l.getD 0 .non, l.getD 1 .non, l.getD 2 .non, l.getD 3 .non, l.getD 4 .non]) (fun _ => rfl) ⟨_, rfl, fun p5 => ?_⟩
      refine rgs_cons (by show (3 : Nat) < 9; decide) rfl (hpv _ (by decide)) ?_
      refine rgs_cons (by show (4 : Nat) < 9; decide) rfl (hpv _ (by decide)) ?_
      refine rgs_cons (by show (5 : Nat) < 9; decide) rfl (hpv _ (by decide)) ?_
      refine rgs_cons (by show (6 : Nat) < 9; decide) rfl (hpv _ (by decide)) ?_
      refine rgs_cons (by show (7 : Nat) < 9; decide) rfl (hpv _ (by decide)) ?_
      refine rgs_nil ?_
      refine rs_at [some (deckT r1.2), some (.f r1.1), none, some (.f (p5.getD 0 .non)), some (.f (p5.getD 1 .non)), some (.f (p5.getD 2 .non)), some (.f (p5.getD 3 .non)), some (.f (p5.getD 4 .non)), none] rfl ?_
      refine rs_seq ?_
      refine rs_if ?_
      refine rt_op2B o_eq ?_
      refine rd_var rfl ?_
      intro _
      refine rd_int ?_
      refine ⟨_, _, _, rfl, rfl, rfl, fun t6 => ?_⟩
      refine ⟨_, _, rfl, fun _ => ?_, fun _ => ?_⟩
      · refine rs_ret ?_
        refine rd_tup ?_
        refine ra_cons ?_
        refine rd_fz ?_
        refine rd_lst ?_
        refine ra_cons ?_
        refine rd_str e_q_a ?_
        intro _
        refine ra_cons ?_
        refine rd_str e_q_b ?_
        intro _
        refine ra_nil ?_
        refine ⟨[(.str q_a), (.str q_b)], rfl, (by show (2 : Nat) ≤ 1000; decide), ?_⟩
        refine ⟨_, rfl, ?_⟩
        intro _
        refine ra_cons ?_
        refine rd_fz ?_
        refine rd_lst ?_
        refine ra_cons ?_
        refine rd_tup ?_
        refine ra_cons ?_
        refine rd_str e_q_c ?_
        intro _
        refine ra_cons ?_
        refine rd_call hec hE ?_
        refine ra_cons ?_
        refine rd_var rfl ?_
        intro _
        refine ra_cons ?_
        refine rd_var rfl ?_
        intro _
        refine ra_cons ?_
        refine rd_var rfl ?_
        intro _
        refine ra_nil ?_
        refine ⟨((p5.getD 0 .non), (p5.getD 1 .non), (p5.getD 2 .non)), _, rfl, rfl, rfl, fun r7 => ?_⟩
        intro _
        refine ra_nil ?_
        refine ⟨[(.str q_c), r7], rfl, (by show (2 : Nat) ≤ 1000; decide), ?_⟩
        intro _
        refine ra_nil ?_
        refine ⟨[(.tup [(.str q_c), r7])], rfl, (by show (1 : Nat) ≤ 1000; decide), ?_⟩
        refine ⟨_, rfl, ?_⟩
        intro _
        refine ra_nil ?_
        refine ⟨[(.lst [(.str q_a), (.str q_b)]), (.lst [(.tup [(.str q_c), r7])])], rfl, (by show (2 : Nat) ≤ 1000; decide), ?_⟩
        refine ⟨_, rfl, ?_⟩
        exact ⟨_, rfl, rfl, ⟨rfl, by decide, trivial⟩⟩
      · refine rs_next ?_
        refine rs_at [some (deckT r1.2), some (.f r1.1), none, some (.f (p5.getD 0 .non)), some (.f (p5.getD 1 .non)), some (.f (p5.getD 2 .non)), some (.f (p5.getD 3 .non)), some (.f (p5.getD 4 .non)), none] rfl ?_
        refine rs_seq ?_
        refine rs_if ?_
        refine rt_op2B o_eq ?_
        refine rd_var rfl ?_
        intro _
        refine rd_int ?_
        refine ⟨_, _, _, rfl, rfl, rfl, fun t8 => ?_⟩
        refine ⟨_, _, rfl, fun _ => ?_, fun _ => ?_⟩
        · refine rs_ret ?_
          refine rd_tup ?_
          refine ra_cons ?_
          refine rd_fz ?_
          refine rd_lst ?_
          refine ra_nil ?_
          refine ⟨[], rfl, (by show (0 : Nat) ≤ 1000; decide), ?_⟩
          refine ⟨_, rfl, ?_⟩
          intro _
          refine ra_cons ?_
          refine rd_fz ?_
          refine rd_lst ?_
          refine ra_cons ?_
          refine rd_tup ?_
          refine ra_cons ?_
          refine rd_str e_q_a ?_
          intro _
          refine ra_cons ?_
          refine rd_tup ?_
          refine ra_cons ?_
          refine rd_str e_q_not ?_
          intro _
          refine ra_cons ?_
          refine rd_var rfl ?_
          intro _
          refine ra_nil ?_
          refine ⟨[(.str q_not), (p5.getD 2 .non)], rfl, (by show (2 : Nat) ≤ 1000; decide), ?_⟩
          intro _
          refine ra_nil ?_
          refine ⟨[(.str q_a), (.tup [(.str q_not), (p5.getD 2 .non)])], rfl, (by show (2 : Nat) ≤ 1000; decide), ?_⟩
          intro _
          refine ra_cons ?_
          refine rd_tup ?_
          refine ra_cons ?_
          refine rd_str e_q_b ?_
          intro _
          refine ra_cons ?_
          refine rd_tup ?_
          refine ra_cons ?_
          refine rd_str e_q_not ?_
          intro _
          refine ra_cons ?_
          refine rd_var rfl ?_
          intro _
          refine ra_nil ?_
          refine ⟨[(.str q_not), (p5.getD 0 .non)], rfl, (by show (2 : Nat) ≤ 1000; decide), ?_⟩
          intro _
          refine ra_nil ?_
          refine ⟨[(.str q_b), (.tup [(.str q_not), (p5.getD 0 .non)])], rfl, (by show (2 : Nat) ≤ 1000; decide), ?_⟩
          intro _
          refine ra_cons ?_
          refine rd_tup ?_
          refine ra_cons ?_
          refine rd_str e_q_c ?_
          intro _
          refine ra_cons ?_
          refine rd_tup ?_
          refine ra_cons ?_
          refine rd_str e_q_not ?_
          intro _
          refine ra_cons ?_
          refine rd_var rfl ?_
          intro _
          refine ra_nil ?_
          refine ⟨[(.str q_not), (p5.getD 1 .non)], rfl, (by show (2 : Nat) ≤ 1000; decide), ?_⟩
          intro _
          refine ra_nil ?_
          refine ⟨[(.str q_c), (.tup [(.str q_not), (p5.getD 1 .non)])], rfl, (by show (2 : Nat) ≤ 1000; decide), ?_⟩
          intro _
          refine ra_nil ?_
          refine ⟨[(.tup [(.str q_a), (.tup [(.str q_not), (p5.getD 2 .non)])]), (.tup [(.str q_b), (.tup [(.str q_not), (p5.getD 0 .non)])]), (.tup [(.str q_c), (.tup [(.str q_not), (p5.getD 1 .non)])])], rfl, (by show (3 : Nat) ≤ 1000; decide), ?_⟩
          refine ⟨_, rfl, ?_⟩
          intro _
          refine ra_nil ?_
          refine ⟨[(.lst []), (.lst [(.tup [(.str q_a), (.tup [(.str q_not), (p5.getD 2 .non)])]), (.tup [(.str q_b), (.tup [(.str q_not), (p5.getD 0 .non)])]), (.tup [(.str q_c), (.tup [(.str q_not), (p5.getD 1 .non)])])])], rfl, (by show (2 : Nat) ≤ 1000; decide), ?_⟩
          refine ⟨_, rfl, ?_⟩
          exact ⟨_, rfl, rfl, ⟨rfl, by decide, trivial⟩⟩
        · refine rs_next ?_
          refine rs_at [some (deckT r1.2), some (.f r1.1), none, some (.f (p5.getD 0 .non)), some (.f (p5.getD 1 .non)), some (.f (p5.getD 2 .non)), some (.f (p5.getD 3 .non)), some (.f (p5.getD 4 .non)), none] rfl ?_
          refine rs_seq ?_
          refine rs_if ?_
          refine rt_op2B o_eq ?_
          refine rd_var rfl ?_
          intro _
          refine rd_int ?_
          refine ⟨_, _, _, rfl, rfl, rfl, fun t9 => ?_⟩
          refine ⟨_, _, rfl, fun _ => ?_, fun _ => ?_⟩
          · refine rs_ret ?_
            refine rd_tup ?_
            refine ra_cons ?_
            refine rd_fz ?_
            refine rd_lst ?_
            refine ra_cons ?_
            refine rd_str e_q_a ?_
            intro _
            refine ra_cons ?_
            refine rd_str e_q_b ?_
            intro _
            refine ra_nil ?_
            refine ⟨[(.str q_a), (.str q_b)], rfl, (by show (2 : Nat) ≤ 1000; decide), ?_⟩
            refine ⟨_, rfl, ?_⟩
            intro _
            refine ra_cons ?_
            refine rd_fz ?_
            refine rd_lst ?_
            refine ra_cons ?_
            refine rd_tup ?_
            refine ra_cons ?_
            refine rd_str e_q_c ?_
            intro _
            refine ra_cons ?_
            refine rd_tup ?_
            refine ra_cons ?_
            refine rd_str e_q_not ?_
            intro _
            refine ra_cons ?_
            refine rd_tup ?_
            refine ra_cons ?_
            refine rd_str e_q_or ?_
            intro _
            refine ra_cons ?_
            refine rd_var rfl ?_
            intro _
            refine ra_cons ?_
            refine rd_var rfl ?_
            intro _
            refine ra_nil ?_
            refine ⟨[(.str q_or), (p5.getD 0 .non), (p5.getD 3 .non)], rfl, (by show (3 : Nat) ≤ 1000; decide), ?_⟩
            intro _
            refine ra_nil ?_
            refine ⟨[(.str q_not), (.tup [(.str q_or), (p5.getD 0 .non), (p5.getD 3 .non)])], rfl, (by show (2 : Nat) ≤ 1000; decide), ?_⟩
            intro _
            refine ra_nil ?_
            refine ⟨[(.str q_c), (.tup [(.str q_not), (.tup [(.str q_or), (p5.getD 0 .non), (p5.getD 3 .non)])])], rfl, (by show (2 : Nat) ≤ 1000; decide), ?_⟩
            intro _
            refine ra_cons ?_
            refine rd_tup ?_
            refine ra_cons ?_
            refine rd_str e_q_d ?_
            intro _
            refine ra_cons ?_
            refine rd_tup ?_
            refine ra_cons ?_
            refine rd_str e_q_not ?_
            intro _
            refine ra_cons ?_
            refine rd_tup ?_
            refine ra_cons ?_
            refine rd_str e_q_or ?_
            intro _
            refine ra_cons ?_
            refine rd_var rfl ?_
            intro _
            refine ra_cons ?_
            refine rd_var rfl ?_
            intro _
            refine ra_nil ?_
            refine ⟨[(.str q_or), (p5.getD 1 .non), (p5.getD 2 .non)], rfl, (by show (3 : Nat) ≤ 1000; decide), ?_⟩
            intro _
            refine ra_nil ?_
            refine ⟨[(.str q_not), (.tup [(.str q_or), (p5.getD 1 .non), (p5.getD 2 .non)])], rfl, (by show (2 : Nat) ≤ 1000; decide), ?_⟩
            intro _
            refine ra_nil ?_
            refine ⟨[(.str q_d), (.tup [(.str q_not), (.tup [(.str q_or), (p5.getD 1 .non), (p5.getD 2 .non)])])], rfl, (by show (2 : Nat) ≤ 1000; decide), ?_⟩
            intro _
            refine ra_nil ?_
            refine ⟨[(.tup [(.str q_c), (.tup [(.str q_not), (.tup [(.str q_or), (p5.getD 0 .non), (p5.getD 3 .non)])])]), (.tup [(.str q_d), (.tup [(.str q_not), (.tup [(.str q_or), (p5.getD 1 .non), (p5.getD 2 .non)])])])], rfl, (by show (2 : Nat) ≤ 1000; decide), ?_⟩
            refine ⟨_, rfl, ?_⟩
            intro _
            refine ra_nil ?_
            refine ⟨[(.lst [(.str q_a), (.str q_b)]), (.lst [(.tup [(.str q_c), (.tup [(.str q_not), (.tup [(.str q_or), (p5.getD 0 .non), (p5.getD 3 .non)])])]), (.tup [(.str q_d), (.tup [(.str q_not), (.tup [(.str q_or), (p5.getD 1 .non), (p5.getD 2 .non)])])])])], rfl, (by show (2 : Nat) ≤ 1000; decide), ?_⟩
            refine ⟨_, rfl, ?_⟩
            exact ⟨_, rfl, rfl, ⟨rfl, by decide, trivial⟩⟩
          · refine rs_next ?_
            refine rs_at [some (deckT r1.2), some (.f r1.1), none, some (.f (p5.getD 0 .non)), some (.f (p5.getD 1 .non)), some (.f (p5.getD 2 .non)), some (.f (p5.getD 3 .non)), some (.f (p5.getD 4 .non)), none] rfl ?_
            refine rs_seq ?_
            refine rs_set ?_ rfl (hpv _ (by decide))
            refine rd_lst ?_
            refine ra_cons ?_
            refine rd_tup ?_
            refine ra_cons ?_
            refine rd_str e_q_b ?_
            intro _
            refine ra_cons ?_
            refine rd_call hec hE ?_
            refine ra_cons ?_
            refine rd_var rfl ?_
            intro _
            refine ra_cons ?_
            refine rd_tup ?_
            refine ra_cons ?_
            refine rd_str e_q_not ?_
            intro _
            refine ra_cons ?_
            refine rd_var rfl ?_
            intro _
            refine ra_nil ?_
            refine ⟨[(.str q_not), (p5.getD 2 .non)], rfl, (by show (2 : Nat) ≤ 1000; decide), ?_⟩
            intro _
            refine ra_cons ?_
            refine rd_var rfl ?_
            intro _
            refine ra_nil ?_
            refine ⟨((p5.getD 0 .non), (.tup [(.str q_not), (p5.getD 2 .non)]), (p5.getD 1 .non)), _, rfl, rfl, rfl, fun r10 => ?_⟩
            intro _
            refine ra_nil ?_
            refine ⟨[(.str q_b), r10], rfl, (by show (2 : Nat) ≤ 1000; decide), ?_⟩
            intro _
            refine ra_cons ?_
            refine rd_tup ?_
            refine ra_cons ?_
            refine rd_str e_q_c ?_
            intro _
            refine ra_cons ?_
            refine rd_call hec hE ?_
            refine ra_cons ?_
            refine rd_var rfl ?_
            intro _
            refine ra_cons ?_
            refine rd_tup ?_
            refine ra_cons ?_
            refine rd_str e_q_not ?_
            intro _
            refine ra_cons ?_
            refine rd_var rfl ?_
            intro _
            refine ra_nil ?_
            refine ⟨[(.str q_not), (p5.getD 3 .non)], rfl, (by show (2 : Nat) ≤ 1000; decide), ?_⟩
            intro _
            refine ra_cons ?_
            refine rd_var rfl ?_
            intro _
            refine ra_nil ?_
            refine ⟨((p5.getD 1 .non), (.tup [(.str q_not), (p5.getD 3 .non)]), (p5.getD 2 .non)), _, rfl, rfl, rfl, fun r11 => ?_⟩
            intro _
            refine ra_nil ?_
            refine ⟨[(.str q_c), r11], rfl, (by show (2 : Nat) ≤ 1000; decide), ?_⟩
            intro _
            refine ra_nil ?_
            refine ⟨[(.tup [(.str q_b), r10]), (.tup [(.str q_c), r11])], rfl, (by show (2 : Nat) ≤ 1000; decide), ?_⟩
            refine ⟨_, rfl, (by show (2 : Nat) < 9; decide), ?_⟩
            refine rs_at [some (deckT r1.2), some (.f r1.1), some (.l [(.tup [(.str q_b), r10]), (.tup [(.str q_c), r11])]), some (.f (p5.getD 0 .non)), some (.f (p5.getD 1 .non)), some (.f (p5.getD 2 .non)), some (.f (p5.getD 3 .non)), some (.f (p5.getD 4 .non)), none] rfl ?_
            refine rs_seq ?_
            refine rs_drop ?_
            refine rd_append ?_
            refine rd_ali rfl ?_
            refine ⟨2, _, rfl, rfl, fun _ => ?_⟩
            refine rd_tup ?_
            refine ra_cons ?_
            refine rd_str e_q_d ?_
            intro _
            refine ra_cons ?_
            refine rd_call hec hE ?_
            refine ra_cons ?_
            refine rd_var rfl ?_
            intro _
            refine ra_cons ?_
            refine rd_tup ?_
            refine ra_cons ?_
            refine rd_str e_q_not ?_
            intro _
            refine ra_cons ?_
            refine rd_var rfl ?_
            intro _
            refine ra_nil ?_
            refine ⟨[(.str q_not), (p5.getD 4 .non)], rfl, (by show (2 : Nat) ≤ 1000; decide), ?_⟩
            intro _
            refine ra_cons ?_
            refine rd_var rfl ?_
            intro _
            refine ra_nil ?_
            refine ⟨((p5.getD 2 .non), (.tup [(.str q_not), (p5.getD 4 .non)]), (p5.getD 3 .non)), _, rfl, rfl, rfl, fun r13 => ?_⟩
            intro _
            refine ra_nil ?_
            refine ⟨[(.str q_d), r13], rfl, (by show (2 : Nat) ≤ 1000; decide), ?_⟩
            refine ⟨_, _, _, rfl, rfl, rfl, fun t12 => ?_⟩
            refine rs_at [some (deckT r1.2), some (.f r1.1), some (.l t12), some (.f (p5.getD 0 .non)), some (.f (p5.getD 1 .non)), some (.f (p5.getD 2 .non)), some (.f (p5.getD 3 .non)), some (.f (p5.getD 4 .non)), none] rfl ?_
            refine rs_ret ?_
            refine rd_tup ?_
            refine ra_cons ?_
            refine rd_fz ?_
            refine rd_lst ?_
            refine ra_cons ?_
            refine rd_str e_q_a ?_
            intro _
            refine ra_cons ?_
            refine rd_str e_q_e ?_
            intro _
            refine ra_nil ?_
            refine ⟨[(.str q_a), (.str q_e)], rfl, (by show (2 : Nat) ≤ 1000; decide), ?_⟩
            refine ⟨_, rfl, ?_⟩
            intro _
            refine ra_cons ?_
            refine rd_frz rfl ?_
            intro _
            refine ra_nil ?_
            refine ⟨[(.lst [(.str q_a), (.str q_e)]), (.lst t12)], rfl, (by show (2 : Nat) ≤ 1000; decide), ?_⟩
            refine ⟨_, rfl, ?_⟩
            exact ⟨_, rfl, rfl, ⟨rfl, by decide, trivial⟩⟩
theorem ok__law_rule (T : Tx K mg) : ∀ n_ : Nat, FnOk P w K mg base CX0 (n_ + 2) T.a__law_rule T.d__law_rule ["deck", "names", "deep"] (spOf (A := ((List (List D) × D)) × D × D) (R := D × ((List (List D) × D))) EC.ec (fun a => [deckT a.1, .f a.2.1, .f a.2.2]) (fun a => m__law_rule n_ a.1 a.2.1 a.2.2) (fun r => .f r.1) (fun r => [some (deckT r.2), none, none]))
  | 0 => by
    refine T.F__law_rule.ok sc__law_rule (fun vs H Q E h => ?_) (fun cdv A outer s H vs Q E hr h => ?_)
    · obtain ⟨a, G, w, _, _, hl, _⟩ := h; exact hl
    · obtain ⟨a, G, w, _, _, _, _, nf, _⟩ := h; exact absurd rfl nf
  | n_ + 1 => by
    refine T.F__law_rule.ok sc__law_rule (fun vs H Q E h => ?_) (fun cdv A outer s H vs Q E hr h => ?_)
    · obtain ⟨a, G, w, _, _, hl, _⟩ := h; exact hl
    · refine ⟨_, (pss_cons (ps_set (i := 3) sc__law_rule.nd rfl (by first | exact .inl rfl | exact .inr rfl) (pe_call (ok__law_draw T) (hr.mono (by omega)) (by rfl) T.g__law_draw T.F__law_draw.kp T.b__law_draw .nil (show Passes CX0 _ E from pass0) (pa_cons (pv 0) (pa_cons pe_int pa_nil)))) (pss_cons (ps_if (pw_or (pt_cmpR (op_eqM (hu_64 hr)) (pv 2) pe_int (nomark _)) (pw_or1 (pt_cmpR op_ltA (pv 3) pe_int (nomark _)))).pt (pss_one (ps_ret (pe_tup (pa_cons pe_str (pa_cons (pe_ix (ix_anyK (Kf := K) (by rfl)) (pv 1) (pe_call (ok__law_draw T) (hr.mono (by omega)) (by rfl) T.g__law_draw T.F__law_draw.kp T.b__law_draw .nil (show Passes CX0 _ E from pass0) (pa_cons (pv 0) (pa_cons (pe_callB (call_lenK (Kf := K) (by rfl)) (by rfl) T.n_len PySem.boot_len (pa_cons (pv 1) pa_nil)) pa_nil))) (fun _ _ => rfl)) pa_nil))))) pss_nil) (pss_cons (ps_set (i := 4) sc__law_rule.nd rfl (by first | exact .inl rfl | exact .inr rfl) (pe_call (ok__law_rule T n_) (hr.mono (by omega)) (by rfl) T.g__law_rule T.F__law_rule.kp T.b__law_rule .nil (show Passes CX0 _ E from pass0) (pa_cons (pv 0) (pa_cons (pv 1) (pa_cons (pe_op op_sub (pv 2) pe_int) pa_nil))))) (pss_cons (ps_if (pt_cmpR (op_eqM (hu_64 hr)) (pv 3) pe_int (nomark _)) (pss_one (ps_ret (pe_tup (pa_cons pe_str (pa_cons (pv 4) pa_nil))))) pss_nil) (pss_one (ps_ret (pe_tup (pa_cons (pe_ix (ix_anyK (Kf := K) (by rfl)) (pe_lst (pa_cons pe_str (pa_cons pe_str pa_nil))) (pe_call (ok__law_draw T) (hr.mono (by omega)) (by rfl) T.g__law_draw T.F__law_draw.kp T.b__law_draw .nil (show Passes CX0 _ E from pass0) (pa_cons (pv 0) (pa_cons pe_int pa_nil))) (fun _ _ => rfl)) (pa_cons (pv 4) (pa_cons (pe_call (ok__law_rule T n_) (hr.mono (by omega)) (by rfl) T.g__law_rule T.F__law_rule.kp T.b__law_rule .nil (show Passes CX0 _ E from pass0) (pa_cons (pv 0) (pa_cons (pv 1) (pa_cons (pe_op op_sub (pv 2) pe_int) pa_nil)))) pa_nil)))))))))), ?_⟩
      refine fn_body (K := K) [0] (fun _ => by show (3 : Nat) ≤ 5; decide) (fun _ => by show ∀ k ∈ ([0] : List Nat), k < 3; decide) h (fun F a hec hE hK hpv => ?_)
      obtain ⟨x_deck, x_names, x_deep⟩ := a
      show RS F [] [some (deckT x_deck), some (.f x_names), some (.f x_deep), none, none] (m__law_rule (n_ + 1) x_deck x_names x_deep) _ _ _
      rw [m__law_rule]
      refine rs_seq ?_
      refine rs_set ?_ rfl (hpv _ (by decide))
      refine rd_call hec hE ?_
      refine ra_cons ?_
      refine rd_ali rfl ?_
      intro _
      refine ra_cons ?_
      refine rd_int ?_
      intro _
      refine ra_nil ?_
      refine ⟨(x_deck, (.int 6)), _, rfl, rfl, rfl, fun r1 => ?_⟩
      refine ⟨_, rfl, (by show (3 : Nat) < 5; decide), ?_⟩
      refine rs_at [some (deckT r1.2), some (.f x_names), some (.f x_deep), some (.f r1.1), none] rfl ?_
      refine rs_seq ?_
      refine rs_if ?_
      refine rt_or (Z := Unit) ?_
      refine rt_op2B o_eq ?_
      refine rd_var rfl ?_
      intro _
      refine rd_int ?_
      refine ⟨_, _, _, rfl, rfl, rfl, fun t3 => ?_⟩
      refine ⟨fun z => [some (deckT r1.2), some (.f x_names), some (.f x_deep), some (.f r1.1), none], (), _, _, rfl, ⟨.inr rfl, ⟨.inr rfl, ⟨.inr rfl, ⟨.inr rfl, ⟨.inl rfl, trivial⟩⟩⟩⟩⟩, fun _ => ?_, fun p2 => ?_⟩
      · refine rt_op2B o_lt ?_
        refine rd_var rfl ?_
        intro _
        refine rd_int ?_
        refine ⟨_, _, _, rfl, rfl, rfl, fun t4 => ?_⟩
        exact ⟨_, rfl, ⟨.inr rfl, ⟨.inr rfl, ⟨.inr rfl, ⟨.inr rfl, ⟨.inl rfl, trivial⟩⟩⟩⟩⟩⟩
      · refine ⟨_, _, rfl, fun _ => ?_, fun _ => ?_⟩
        · refine rs_ret ?_
          refine rd_tup ?_
          refine ra_cons ?_
          refine rd_str e_q_wire ?_
          intro _
          refine ra_cons ?_
          refine rd_op2 o_ix ?_
          refine rd_var rfl ?_
          intro _
          refine rd_call hec hE ?_
          refine ra_cons ?_
          refine rd_ali rfl ?_
          intro _
          refine ra_cons ?_
          refine rd_cb1 o_len ?_
          refine rd_var rfl ?_
          refine ⟨_, _, rfl, rfl, fun t7 => ?_⟩
          intro _
          refine ra_nil ?_
          refine ⟨(r1.2, t7), _, rfl, rfl, rfl, fun r6 => ?_⟩
          refine ⟨_, _, _, rfl, rfl, rfl, fun t5 => ?_⟩
          intro _
          refine ra_nil ?_
          refine ⟨[(.str q_wire), t5], rfl, (by show (2 : Nat) ≤ 1000; decide), ?_⟩
          refine ⟨_, rfl, ?_⟩
          exact ⟨_, rfl, rfl, ⟨rfl, by decide, trivial⟩⟩
        · refine rs_next ?_
          refine rs_at [some (deckT r1.2), some (.f x_names), some (.f x_deep), some (.f r1.1), none] rfl ?_
          refine rs_seq ?_
          refine rs_set ?_ rfl (hpv _ (by decide))
          refine rd_call hec hE ?_
          refine ra_cons ?_
          refine rd_ali rfl ?_
          intro _
          refine ra_cons ?_
          refine rd_var rfl ?_
          intro _
          refine ra_cons ?_
          refine rd_op2 o_sub ?_
          refine rd_var rfl ?_
          intro _
          refine rd_int ?_
          refine ⟨_, _, _, rfl, rfl, rfl, fun t9 => ?_⟩
          intro _
          refine ra_nil ?_
          refine ⟨(r1.2, x_names, t9), _, rfl, rfl, rfl, fun r8 => ?_⟩
          refine ⟨_, rfl, (by show (4 : Nat) < 5; decide), ?_⟩
          refine rs_at [some (deckT r8.2), some (.f x_names), some (.f x_deep), some (.f r1.1), some (.f r8.1)] rfl ?_
          refine rs_seq ?_
          refine rs_if ?_
          refine rt_op2B o_eq ?_
          refine rd_var rfl ?_
          intro _
          refine rd_int ?_
          refine ⟨_, _, _, rfl, rfl, rfl, fun t10 => ?_⟩
          refine ⟨_, _, rfl, fun _ => ?_, fun _ => ?_⟩
          · refine rs_ret ?_
            refine rd_tup ?_
            refine ra_cons ?_
            refine rd_str e_q_not ?_
            intro _
            refine ra_cons ?_
            refine rd_var rfl ?_
            intro _
            refine ra_nil ?_
            refine ⟨[(.str q_not), r8.1], rfl, (by show (2 : Nat) ≤ 1000; decide), ?_⟩
            refine ⟨_, rfl, ?_⟩
            exact ⟨_, rfl, rfl, ⟨rfl, by decide, trivial⟩⟩
          · refine rs_next ?_
            refine rs_at [some (deckT r8.2), some (.f x_names), some (.f x_deep), some (.f r1.1), some (.f r8.1)] rfl ?_
            refine rs_ret ?_
            refine rd_tup ?_
            refine ra_cons ?_
            refine rd_op2 o_ix ?_
            refine rd_lst ?_
            refine ra_cons ?_
            refine rd_str e_q_and ?_
            intro _
            refine ra_cons ?_
            refine rd_str e_q_or ?_
            intro _
            refine ra_nil ?_
            refine ⟨[(.str q_and), (.str q_or)], rfl, (by show (2 : Nat) ≤ 1000; decide), ?_⟩
            intro _
            refine rd_call hec hE ?_
            refine ra_cons ?_
            refine rd_ali rfl ?_
            intro _
            refine ra_cons ?_
            refine rd_int ?_
            intro _
            refine ra_nil ?_
            refine ⟨(r8.2, (.int 2)), _, rfl, rfl, rfl, fun r12 => ?_⟩
            refine ⟨_, _, _, rfl, rfl, rfl, fun t11 => ?_⟩
            intro _
            refine ra_cons ?_
            refine rd_var rfl ?_
            intro _
            refine ra_cons ?_
            refine rd_call hec hE ?_
            refine ra_cons ?_
            refine rd_ali rfl ?_
            intro _
            refine ra_cons ?_
            refine rd_var rfl ?_
            intro _
            refine ra_cons ?_
            refine rd_op2 o_sub ?_
            refine rd_var rfl ?_
            intro _
            refine rd_int ?_
            refine ⟨_, _, _, rfl, rfl, rfl, fun t14 => ?_⟩
            intro _
            refine ra_nil ?_
            refine ⟨(r12.2, x_names, t14), _, rfl, rfl, rfl, fun r13 => ?_⟩
            intro _
            refine ra_nil ?_
            refine ⟨[t11, r8.1, r13.1], rfl, (by show (3 : Nat) ≤ 1000; decide), ?_⟩
            refine ⟨_, rfl, ?_⟩
            exact ⟨_, rfl, rfl, ⟨rfl, by decide, trivial⟩⟩
theorem ok__law_net (T : Tx K mg) : FnOk P w K mg base CX0 27 T.a__law_net T.d__law_net ["deck"] (spOf (A := ((List (List D) × D))) (R := D × ((List (List D) × D))) EC.ec (fun a => [deckT a]) (fun a => m__law_net a) (fun r => .f r.1) (fun r => [some (deckT r.2)])) := by
  refine T.F__law_net.ok sc__law_net (fun vs H Q E h => ?_) (fun cdv A outer s H vs Q E hr h => ?_)
  · obtain ⟨a, G, w, _, _, hl, _⟩ := h; exact hl
  · refine ⟨_, (pss_cons (ps_if (pt_cmpR (op_eqM (hu_64 hr)) (pe_call (ok__law_draw T) (hr.mono (by decide)) (by rfl) T.g__law_draw T.F__law_draw.kp T.b__law_draw .nil (show Passes CX0 _ E from pass0) (pa_cons (pv 0) (pa_cons pe_int pa_nil))) pe_int (nomark _)) (pss_one (ps_ret (pe_call (ok__law_known T) (hr.mono (by decide)) (by rfl) T.g__law_known T.F__law_known.kp T.b__law_known .nil (show Passes CX0 _ E from pass0) (pa_cons (pv 0) pa_nil)))) pss_nil) (pss_cons (ps_set (i := 1) sc__law_net.nd rfl (by first | exact .inl rfl | exact .inr rfl) (pe_call (ok__law_draw T) (hr.mono (by decide)) (by rfl) T.g__law_draw T.F__law_draw.kp T.b__law_draw .nil (show Passes CX0 _ E from pass0) (pa_cons (pv 0) (pa_cons pe_int pa_nil)))) (pss_cons (ps_set (i := 2) sc__law_net.nd rfl (by first | exact .inl rfl | exact .inr rfl) (pe_op op_addA pe_int (pe_call (ok__law_draw T) (hr.mono (by decide)) (by rfl) T.g__law_draw T.F__law_draw.kp T.b__law_draw .nil (show Passes CX0 _ E from pass0) (pa_cons (pv 0) (pa_cons pe_int pa_nil))))) (pss_cons (ps_set (i := 3) sc__law_net.nd rfl (by first | exact .inl rfl | exact .inr rfl) (pe_call (ok__law_names T) (hr.mono (by decide)) (by rfl) T.g__law_names T.F__law_names.kp T.b__law_names .nil (show Passes CX0 _ E from pass0) (pa_cons (pv 0) (pa_cons (pe_op op_addA (pv 1) (pv 2)) pa_nil)))) (pss_cons (ps_set (i := 4) sc__law_net.nd rfl (by first | exact .inl rfl | exact .inr rfl) (pe_lst pa_nil)) (pss_cons (ps_for PassesOwn.never rfl (pi_listK (Kf := K) (by rfl) (pe_slice (sl_listK (Kf := K) (by rfl)) (pv 3) (po_some (pv 1)) po_none)) (pg_name (i := 5) sc__law_net.nd rfl (by first | exact .inl rfl | exact .inr rfl)) (pss_cons (ps_set (i := 6) sc__law_net.nd rfl (by first | exact .inl rfl | exact .inr rfl) (pe_ix (ix_anyK (Kf := K) (by rfl)) (pe_lst (pa_cons pe_int (pa_cons pe_int (pa_cons (pe_ix (ix_anyK (Kf := K) (by rfl)) (pe_lst (pa_cons pe_int (pa_cons pe_int pa_nil))) (pe_callTy call_intA (by rfl) T.n_int PyProof.Rows.boot_int (pa_cons (pe_cmpR (op_eqM (hu_64 hr)) (pv 4) (pe_lst pa_nil) (nomark _)) pa_nil)) (fun _ _ => rfl)) pa_nil)))) (pe_call (ok__law_draw T) (hr.mono (by decide)) (by rfl) T.g__law_draw T.F__law_draw.kp T.b__law_draw .nil (show Passes CX0 _ E from pass0) (pa_cons (pv 0) (pa_cons pe_int pa_nil))) (fun _ _ => rfl))) (pss_one (ps_expr (pe_bmK (Kf := K) (by rfl) PySem.F.plainAttrs_list PySem.F.slot_list_append PySem.F.type_list_append mt_append (pv 4) (pa_cons (pe_tup (pa_cons (pv 5) (pa_cons (pe_call (ok__law_rule T 24) (hr.mono (by decide)) (by rfl) T.g__law_rule T.F__law_rule.kp T.b__law_rule .nil (show Passes CX0 _ E from pass0) (pa_cons (pv 0) (pa_cons (pv 3) (pa_cons (pv 6) pa_nil)))) pa_nil))) pa_nil)))))) (pss_one (ps_ret (pe_tup (pa_cons (pe_slice (sl_listK (Kf := K) (by rfl)) (pv 3) po_none (po_some (pv 1))) (pa_cons (pv 4) pa_nil))))))))))), ?_⟩
    refine fn_body (K := K) [0] (fun _ => by show (1 : Nat) ≤ 7; decide) (fun _ => by show ∀ k ∈ ([0] : List Nat), k < 1; decide) h (fun F x_deck hec hE hK hpv => ?_)
    skip
    show RS F [] [some (deckT x_deck), none, none, none, none, none, none] (m__law_net x_deck) _ _ _
    unfold m__law_net
    refine rs_seq ?_
    refine rs_if ?_
    refine rt_op2B o_eq ?_
    refine rd_call hec hE ?_
    refine ra_cons ?_
    refine rd_ali rfl ?_
    intro _
    refine ra_cons ?_
    refine rd_int ?_
    intro _
    refine ra_nil ?_
    refine ⟨(x_deck, (.int 5)), _, rfl, rfl, rfl, fun r2 => ?_⟩
    intro _
    refine rd_int ?_
    refine ⟨_, _, _, rfl, rfl, rfl, fun t1 => ?_⟩
    refine ⟨_, _, rfl, fun _ => ?_, fun _ => ?_⟩
    · refine rs_ret ?_
      refine rd_call hec hE ?_
      refine ra_cons ?_
      refine rd_ali rfl ?_
      intro _
      refine ra_nil ?_
      refine ⟨(r2.2), _, rfl, rfl, rfl, fun r3 => ?_⟩
      refine ⟨_, rfl, ?_⟩
      exact ⟨_, rfl, rfl, ⟨rfl, by decide, trivial⟩⟩
    · refine rs_next ?_
      refine rs_at [some (deckT r2.2), none, none, none, none, none, none] rfl ?_
      refine rs_seq ?_
      refine rs_set ?_ rfl (hpv _ (by decide))
      refine rd_call hec hE ?_
      refine ra_cons ?_
      refine rd_ali rfl ?_
      intro _
      refine ra_cons ?_
      refine rd_int ?_
      intro _
      refine ra_nil ?_
      refine ⟨(r2.2, (.int 5)), _, rfl, rfl, rfl, fun r4 => ?_⟩
      refine ⟨_, rfl, (by show (1 : Nat) < 7; decide), ?_⟩
      refine rs_at [some (deckT r4.2), some (.f r4.1), none, none, none, none, none] rfl ?_
      refine rs_seq ?_
      refine rs_set ?_ rfl (hpv _ (by decide))
      refine rd_op2 o_add ?_
      refine rd_int ?_
      intro _
      refine rd_call hec hE ?_
      refine ra_cons ?_
      refine rd_ali rfl ?_
      intro _
      refine ra_cons ?_
      refine rd_int ?_
      intro _
      refine ra_nil ?_
      refine ⟨(r4.2, (.int 7)), _, rfl, rfl, rfl, fun r6 => ?_⟩
      refine ⟨_, _, _, rfl, rfl, rfl, fun t5 => ?_⟩
      refine ⟨_, rfl, (by show (2 : Nat) < 7; decide), ?_⟩
      refine rs_at [some (deckT r6.2), some (.f r4.1), some (.f t5), none, none, none, none] rfl ?_
      refine rs_seq ?_
      refine rs_set ?_ rfl (hpv _ (by decide))
      refine rd_fz ?_
      refine rd_call hec hE ?_
      refine ra_cons ?_
      refine rd_ali rfl ?_
      intro _
      refine ra_cons ?_
      refine rd_op2 o_add ?_
      refine rd_var rfl ?_
      intro _
      refine rd_var rfl ?_
      refine ⟨_, _, _, rfl, rfl, rfl, fun t8 => ?_⟩
      intro _
      refine ra_nil ?_
      refine ⟨(r6.2, t8), _, rfl, rfl, rfl, fun r7 => ?_⟩
      refine ⟨_, rfl, ?_⟩
      refine ⟨_, rfl, (by show (3 : Nat) < 7; decide), ?_⟩
      refine rs_at [some (deckT r7.2), some (.f r4.1), some (.f t5), some (.f (.lst r7.1)), none, none, none] rfl ?_
      refine rs_seq ?_
      refine rs_set ?_ rfl (hpv _ (by decide))
      refine rd_lst ?_
      refine ra_nil ?_
      refine ⟨[], rfl, (by show (0 : Nat) ≤ 1000; decide), ?_⟩
      refine ⟨_, rfl, (by show (4 : Nat) < 7; decide), ?_⟩
      refine rs_at [some (deckT r7.2), some (.f r4.1), some (.f t5), some (.f (.lst r7.1)), some (.l []), none, none] rfl ?_
      refine rs_seq ?_
      refine rs_forN (Z := (((List (List D) × D)) × (List D))) [5] ?_
      refine ri_lst ?_
      refine rd_slL ?_
      refine rd_var rfl ?_
      intro _
      refine ro_some ?_
      refine rd_var rfl ?_
      refine ⟨_, _, rfl, rfl, fun t13 => ?_⟩
      refine ro_none ?_
      refine ⟨_, _, rfl, rfl, fun t12 => ?_⟩
      refine ⟨_, _, rfl, rfl, fun ds11 _ => ?_⟩
      refine ⟨fun z10 => [some (deckT z10.1), some (.f r4.1), some (.f t5), some (.f (.lst r7.1)), some (.l z10.2), none, none], _, _, _, rfl, ⟨.inr rfl, ⟨.inr rfl, ⟨.inr rfl, ⟨.inr rfl, ⟨.inr rfl, ⟨.inl rfl, ⟨.inl rfl, trivial⟩⟩⟩⟩⟩⟩⟩, fun _ => (by first | exact trivial | rfl | exact ⟨rfl, rfl⟩), fun z10 d9 => ?_, fun z10 => ?_⟩
      · refine rg_name (by show (5 : Nat) < 7; decide) rfl (hpv _ (by decide)) ?_
        refine rs_at [some (deckT z10.1), some (.f r4.1), some (.f t5), some (.f (.lst r7.1)), some (.l z10.2), some (.f d9), none] rfl ?_
        refine rs_seq ?_
        refine rs_set ?_ rfl (hpv _ (by decide))
        refine rd_op2 o_ix ?_
        refine rd_lst ?_
        refine ra_cons ?_
        refine rd_int ?_
        intro _
        refine ra_cons ?_
        refine rd_int ?_
        intro _
        refine ra_cons ?_
        refine rd_op2 o_ix ?_
        refine rd_lst ?_
        refine ra_cons ?_
        refine rd_int ?_
        intro _
        refine ra_cons ?_
        refine rd_int ?_
        intro _
        refine ra_nil ?_
        refine ⟨[(.int 4), (.int 10)], rfl, (by show (2 : Nat) ≤ 1000; decide), ?_⟩
        intro _
        refine rd_cb1 o_int ?_
        refine rd_op2B o_eq ?_
        refine rd_ali rfl ?_
        intro _
        refine rd_lst ?_
        refine ra_nil ?_
        refine ⟨[], rfl, (by show (0 : Nat) ≤ 1000; decide), ?_⟩
        refine ⟨_, _, _, rfl, rfl, rfl, fun t17 => ?_⟩
        refine ⟨_, _, rfl, rfl, fun t16 => ?_⟩
        refine ⟨_, _, _, rfl, rfl, rfl, fun t15 => ?_⟩
        intro _
        refine ra_nil ?_
        refine ⟨[(.int 3), (.int 4), t15], rfl, (by show (3 : Nat) ≤ 1000; decide), ?_⟩
        intro _
        refine rd_call hec hE ?_
        refine ra_cons ?_
        refine rd_ali rfl ?_
        intro _
        refine ra_cons ?_
        refine rd_int ?_
        intro _
        refine ra_nil ?_
        refine ⟨(z10.1, (.int 3)), _, rfl, rfl, rfl, fun r18 => ?_⟩
        refine ⟨_, _, _, rfl, rfl, rfl, fun t14 => ?_⟩
        refine ⟨_, rfl, (by show (6 : Nat) < 7; decide), ?_⟩
        refine rs_at [some (deckT r18.2), some (.f r4.1), some (.f t5), some (.f (.lst r7.1)), some (.l z10.2), some (.f d9), some (.f t14)] rfl ?_
        refine rs_drop ?_
        refine rd_append ?_
        refine rd_ali rfl ?_
        refine ⟨4, _, rfl, rfl, fun _ => ?_⟩
        refine rd_tup ?_
        refine ra_cons ?_
        refine rd_var rfl ?_
        intro _
        refine ra_cons ?_
        refine rd_call hec hE ?_
        refine ra_cons ?_
        refine rd_ali rfl ?_
        intro _
        refine ra_cons ?_
        refine rd_var rfl ?_
        intro _
        refine ra_cons ?_
        refine rd_var rfl ?_
        intro _
        refine ra_nil ?_
        refine ⟨(r18.2, (.lst r7.1), t14), _, rfl, rfl, rfl, fun r20 => ?_⟩
        intro _
        refine ra_nil ?_
        refine ⟨[d9, r20.1], rfl, (by show (2 : Nat) ≤ 1000; decide), ?_⟩
        refine ⟨_, _, _, rfl, rfl, rfl, fun t19 => ?_⟩
        exact ⟨_, rfl, ⟨.inr rfl, ⟨.inr rfl, ⟨.inr rfl, ⟨.inr rfl, ⟨.inr rfl, ⟨.inl rfl, ⟨.inl rfl, trivial⟩⟩⟩⟩⟩⟩⟩⟩
      · refine rs_at [some (deckT z10.1), some (.f r4.1), some (.f t5), some (.f (.lst r7.1)), some (.l z10.2), none, none] rfl ?_
        refine rs_ret ?_
        refine rd_tup ?_
        refine ra_cons ?_
        refine rd_fz ?_
        refine rd_slL ?_
        refine rd_var rfl ?_
        intro _
        refine ro_none ?_
        refine ro_some ?_
        refine rd_var rfl ?_
        refine ⟨_, _, rfl, rfl, fun t22 => ?_⟩
        refine ⟨_, _, rfl, rfl, fun t21 => ?_⟩
        refine ⟨_, rfl, ?_⟩
        intro _
        refine ra_cons ?_
        refine rd_frz rfl ?_
        intro _
        refine ra_nil ?_
        refine ⟨[(.lst t21), (.lst z10.2)], rfl, (by show (2 : Nat) ≤ 1000; decide), ?_⟩
        refine ⟨_, rfl, ?_⟩
        exact ⟨_, rfl, rfl, ⟨rfl, by decide, trivial⟩⟩
theorem ok__law_name_good (T : Tx K mg) : FnOk P w K mg base CX0 1 T.a__law_name_good T.d__law_name_good ["thing"] (spOf (A := D) (R := D) EC.ec (fun a => [.f a]) (fun a => m__law_name_good a) (fun r => .f r) (fun r => [none])) := by
  refine T.F__law_name_good.ok sc__law_name_good (fun vs H Q E h => ?_) (fun cdv A outer s H vs Q E hr h => ?_)
  · obtain ⟨a, G, w, _, _, hl, _⟩ := h; exact hl
  · refine ⟨_, (pss_cons (ps_if (pw_or (pt_not (pt_val (pe_callB (call_isiK' (Kf := K) (by rfl)) (by rfl) T.n_isinstance PyProof.Rows.boot_isinstance (pa_cons (pv 0) (pa_cons (pe_bltn (v := .ty "str") (u := .type "str") (by rfl) T.n_str (by decide +kernel) rfl) pa_nil))))) (pw_or1 (pt_not (pt_chain op_ltA op_ltA pe_int (pe_callB (call_lenK (Kf := K) (by rfl)) (by rfl) T.n_len PySem.boot_len (pa_cons (pv 0) pa_nil)) pe_int)))).pt (pss_one (ps_ret pe_bl)) pss_nil) (pss_one (ps_ret (pe_cmpR (op_eqM (hu_64 hr)) (pe_bmK (Kf := K) (by rfl) PySem.F.plainAttrs_str PySem.F.slot_str_strip PySem.F.type_str_strip mt_stripChars (pv 0) (pa_cons pe_str pa_nil)) pe_str (nomark _))))), ?_⟩
    refine fn_body (K := K) [] (fun _ => by show (1 : Nat) ≤ 1; decide) (fun _ => by show ∀ k ∈ ([] : List Nat), k < 1; decide) h (fun F x_thing hec hE hK hpv => ?_)
    skip
    show RS F [] [some (.f x_thing)] (m__law_name_good x_thing) _ _ _
    unfold m__law_name_good
    refine rs_seq ?_
    refine rs_if ?_
    refine rt_or (Z := Unit) ?_
    refine rt_not ?_
    refine rt_val ?_
    refine rd_isi .str ?_
    refine rd_var rfl ?_
    refine ⟨_, _, rfl, rfl, fun t3 => ?_⟩
    refine ⟨_, _, rfl, rfl, fun t2 => ?_⟩
    refine ⟨fun z => [some (.f x_thing)], (), _, _, rfl, ⟨.inr rfl, trivial⟩, fun _ => ?_, fun p1 => ?_⟩
    · refine rt_not ?_
      refine rt_chain o_lt o_lt ?_
      refine rd_int ?_
      intro _
      refine rd_cb1 o_len ?_
      refine rd_var rfl ?_
      refine ⟨_, _, rfl, rfl, fun t7 => ?_⟩
      refine ⟨_, _, _, rfl, rfl, rfl, fun t4 => ⟨_, _, rfl, fun _ _ => ?_, fun c5 => ?_⟩⟩
      · refine rd_int ?_
        exact ⟨_, _, rfl, rfl, rfl, ⟨.inr rfl, trivial⟩⟩
      · exact ⟨_, rfl, ⟨.inr rfl, trivial⟩⟩
    · refine ⟨_, _, rfl, fun _ => ?_, fun _ => ?_⟩
      · refine rs_ret ?_
        refine rd_bl ?_
        refine ⟨_, rfl, ?_⟩
        exact ⟨_, rfl, rfl, trivial⟩
      · refine rs_next ?_
        refine rs_at [some (.f x_thing)] rfl ?_
        refine rs_ret ?_
        refine rd_op2B o_eq ?_
        refine rd_strip ?_
        refine rd_var rfl ?_
        refine ⟨_, _, rfl, rfl, fun t10 _ => ?_⟩
        refine rd_str e_q_abcdefghijklmnopqrstuvwxyz ?_
        refine ⟨_, _, _, rfl, rfl, rfl, fun t9 => ?_⟩
        intro _
        refine rd_str e_qx_ ?_
        refine ⟨_, _, _, rfl, rfl, rfl, fun t8 => ?_⟩
        refine ⟨_, rfl, ?_⟩
        exact ⟨_, rfl, rfl, trivial⟩
theorem ok__law_rule_good (T : Tx K mg) : ∀ n_ : Nat, FnOk P w K mg base CX0 (n_ + 1) T.a__law_rule_good T.d__law_rule_good ["thing", "names", "deep"] (spOf (A := D × D × D) (R := D) EC.ec (fun a => [.f a.1, .f a.2.1, .f a.2.2]) (fun a => m__law_rule_good n_ a.1 a.2.1 a.2.2) (fun r => .f r) (fun r => [none, none, none]))
  | 0 => by
    refine T.F__law_rule_good.ok sc__law_rule_good (fun vs H Q E h => ?_) (fun cdv A outer s H vs Q E hr h => ?_)
    · obtain ⟨a, G, w, _, _, hl, _⟩ := h; exact hl
    · obtain ⟨a, G, w, _, _, _, _, nf, _⟩ := h; exact absurd rfl nf
  | n_ + 1 => by
    refine T.F__law_rule_good.ok sc__law_rule_good (fun vs H Q E h => ?_) (fun cdv A outer s H vs Q E hr h => ?_)
    · obtain ⟨a, G, w, _, _, hl, _⟩ := h; exact hl
    · refine ⟨_, (pss_cons (ps_if (pw_or (pt_not (pt_val (pe_callB (call_isiK' (Kf := K) (by rfl)) (by rfl) T.n_isinstance PyProof.Rows.boot_isinstance (pa_cons (pv 0) (pa_cons (pe_bltn (v := .ty "tuple") (u := .type "tuple") (by rfl) T.n_tuple (by decide +kernel) rfl) pa_nil))))) (pw_or (pt_cmpR (op_eqG (hu_64 hr)) (pv 0) (pe_tup pa_nil) (nomark _)) (pw_or1 (pt_cmpR op_gt (pv 2) pe_int (nomark _))))).pt (pss_one (ps_ret pe_bl)) pss_nil) (pss_cons (ps_if (pw_and (pt_cmpR (op_eqG (hu_64 hr)) (pe_ix (ix_anyK (Kf := K) (by rfl)) (pv 0) pe_int (fun _ _ => rfl)) pe_str (nomark _)) (pw_and1 (pt_cmpR (op_eqM (hu_64 hr)) (pe_callB (call_lenK (Kf := K) (by rfl)) (by rfl) T.n_len PySem.boot_len (pa_cons (pv 0) pa_nil)) pe_int (nomark _)))).pt (pss_one (ps_ret (pe_and (pe_callB (call_isiK' (Kf := K) (by rfl)) (by rfl) T.n_isinstance PyProof.Rows.boot_isinstance (pa_cons (pe_ix (ix_anyK (Kf := K) (by rfl)) (pv 0) pe_int (fun _ _ => rfl)) (pa_cons (pe_bltn (v := .ty "str") (u := .type "str") (by rfl) T.n_str (by decide +kernel) rfl) pa_nil))) (pe_one (pe_cmpR op_gt (pe_bmK (Kf := K) (by rfl) PySem.F.plainAttrs_list PySem.F.slot_list_count PySem.F.type_list_count (mt_countK (Kf := K) (by rfl)) (pv 1) (pa_cons (pe_ix (ix_anyK (Kf := K) (by rfl)) (pv 0) pe_int (fun _ _ => rfl)) pa_nil)) pe_int (nomark _)))))) pss_nil) (pss_cons (ps_if (pw_and (pt_cmpR (op_eqG (hu_64 hr)) (pe_ix (ix_anyK (Kf := K) (by rfl)) (pv 0) pe_int (fun _ _ => rfl)) pe_str (nomark _)) (pw_and1 (pt_cmpR (op_eqM (hu_64 hr)) (pe_callB (call_lenK (Kf := K) (by rfl)) (by rfl) T.n_len PySem.boot_len (pa_cons (pv 0) pa_nil)) pe_int (nomark _)))).pt (pss_one (ps_ret (pe_call (ok__law_rule_good T n_) (hr.mono (by omega)) (by rfl) T.g__law_rule_good T.F__law_rule_good.kp T.b__law_rule_good .nil (show Passes CX0 _ E from pass0) (pa_cons (pe_ix (ix_anyK (Kf := K) (by rfl)) (pv 0) pe_int (fun _ _ => rfl)) (pa_cons (pv 1) (pa_cons (pe_op op_addA (pv 2) pe_int) pa_nil)))))) pss_nil) (pss_cons (ps_if (pw_and (pt_cmpR (op_inEK (Kf := K) (by rfl) (hu_64 hr)) (pe_ix (ix_anyK (Kf := K) (by rfl)) (pv 0) pe_int (fun _ _ => rfl)) (pe_lst (pa_cons pe_str (pa_cons pe_str pa_nil))) rfl) (pw_and1 (pt_cmpR (op_eqM (hu_64 hr)) (pe_callB (call_lenK (Kf := K) (by rfl)) (by rfl) T.n_len PySem.boot_len (pa_cons (pv 0) pa_nil)) pe_int (nomark _)))).pt (pss_one (ps_ret (pe_and (pe_call (ok__law_rule_good T n_) (hr.mono (by omega)) (by rfl) T.g__law_rule_good T.F__law_rule_good.kp T.b__law_rule_good .nil (show Passes CX0 _ E from pass0) (pa_cons (pe_ix (ix_anyK (Kf := K) (by rfl)) (pv 0) pe_int (fun _ _ => rfl)) (pa_cons (pv 1) (pa_cons (pe_op op_addA (pv 2) pe_int) pa_nil)))) (pe_one (pe_call (ok__law_rule_good T n_) (hr.mono (by omega)) (by rfl) T.g__law_rule_good T.F__law_rule_good.kp T.b__law_rule_good .nil (show Passes CX0 _ E from pass0) (pa_cons (pe_ix (ix_anyK (Kf := K) (by rfl)) (pv 0) pe_int (fun _ _ => rfl)) (pa_cons (pv 1) (pa_cons (pe_op op_addA (pv 2) pe_int) pa_nil)))))))) pss_nil) (pss_one (ps_ret pe_bl)))))), ?_⟩
      refine fn_body (K := K) [] (fun _ => by show (3 : Nat) ≤ 3; decide) (fun _ => by show ∀ k ∈ ([] : List Nat), k < 3; decide) h (fun F a hec hE hK hpv => ?_)
      obtain ⟨x_thing, x_names, x_deep⟩ := a
      show RS F [] [some (.f x_thing), some (.f x_names), some (.f x_deep)] (m__law_rule_good (n_ + 1) x_thing x_names x_deep) _ _ _
      rw [m__law_rule_good]
      refine rs_seq ?_
      refine rs_if ?_
      refine rt_or (Z := Unit) ?_
      refine rt_not ?_
      refine rt_val ?_
      refine rd_isi .tuple ?_
      refine rd_var rfl ?_
      refine ⟨_, _, rfl, rfl, fun t3 => ?_⟩
      refine ⟨_, _, rfl, rfl, fun t2 => ?_⟩
      refine ⟨fun z => [some (.f x_thing), some (.f x_names), some (.f x_deep)], (), _, _, rfl, ⟨.inr rfl, ⟨.inr rfl, ⟨.inr rfl, trivial⟩⟩⟩, fun _ => ?_, fun p1 => ?_⟩
      · refine rt_or (Z := Unit) ?_
        refine rt_op2B o_eqG ?_
        refine rd_var rfl ?_
        intro _
        refine rd_tup ?_
        refine ra_nil ?_
        refine ⟨[], rfl, (by show (0 : Nat) ≤ 1000; decide), ?_⟩
        refine ⟨_, _, _, rfl, rfl, rfl, fun t5 => ?_⟩
        refine ⟨fun z => [some (.f x_thing), some (.f x_names), some (.f x_deep)], (), _, _, rfl, ⟨.inr rfl, ⟨.inr rfl, ⟨.inr rfl, trivial⟩⟩⟩, fun _ => ?_, fun p4 => ?_⟩
        · refine rt_op2B o_gt ?_
          refine rd_var rfl ?_
          intro _
          refine rd_int ?_
          refine ⟨_, _, _, rfl, rfl, rfl, fun t6 => ?_⟩
          exact ⟨_, rfl, ⟨.inr rfl, ⟨.inr rfl, ⟨.inr rfl, trivial⟩⟩⟩⟩
        · exact ⟨_, rfl, ⟨.inr rfl, ⟨.inr rfl, ⟨.inr rfl, trivial⟩⟩⟩⟩
      · refine ⟨_, _, rfl, fun _ => ?_, fun _ => ?_⟩
        · refine rs_ret ?_
          refine rd_bl ?_
          refine ⟨_, rfl, ?_⟩
          exact ⟨_, rfl, rfl, trivial⟩
        · refine rs_next ?_
          refine rs_at [some (.f x_thing), some (.f x_names), some (.f x_deep)] rfl ?_
          refine rs_seq ?_
          refine rs_if ?_
          refine rt_and (Z := Unit) ?_
          refine rt_op2B o_eqG ?_
          refine rd_op2 o_ix ?_
          refine rd_var rfl ?_
          intro _
          refine rd_int ?_
          refine ⟨_, _, _, rfl, rfl, rfl, fun t9 => ?_⟩
          intro _
          refine rd_str e_q_wire ?_
          refine ⟨_, _, _, rfl, rfl, rfl, fun t8 => ?_⟩
          refine ⟨fun z => [some (.f x_thing), some (.f x_names), some (.f x_deep)], (), _, _, rfl, ⟨.inr rfl, ⟨.inr rfl, ⟨.inr rfl, trivial⟩⟩⟩, fun _ => ?_, fun p7 => ?_⟩
          · refine rt_op2B o_eq ?_
            refine rd_cb1 o_len ?_
            refine rd_var rfl ?_
            refine ⟨_, _, rfl, rfl, fun t11 => ?_⟩
            intro _
            refine rd_int ?_
            refine ⟨_, _, _, rfl, rfl, rfl, fun t10 => ?_⟩
            exact ⟨_, rfl, ⟨.inr rfl, ⟨.inr rfl, ⟨.inr rfl, trivial⟩⟩⟩⟩
          · refine ⟨_, _, rfl, fun _ => ?_, fun _ => ?_⟩
            · refine rs_ret ?_
              refine rd_andV (Z := Unit) ?_
              refine rd_isi .str ?_
              refine rd_op2 o_ix ?_
              refine rd_var rfl ?_
              intro _
              refine rd_int ?_
              refine ⟨_, _, _, rfl, rfl, rfl, fun t15 => ?_⟩
              refine ⟨_, _, rfl, rfl, fun t14 => ?_⟩
              refine ⟨_, _, rfl, rfl, fun t12 => ⟨fun z => [some (.f x_thing), some (.f x_names), some (.f x_deep)], (), _, _, rfl, ⟨.inr rfl, ⟨.inr rfl, ⟨.inr rfl, trivial⟩⟩⟩, fun _ => ?_, fun p13 => ?_⟩⟩
              · refine rd_op2B o_gt ?_
                refine rd_count ?_
                refine rd_var rfl ?_
                refine ⟨_, _, rfl, rfl, fun t18 _ => ?_⟩
                refine rd_op2 o_ix ?_
                refine rd_var rfl ?_
                intro _
                refine rd_int ?_
                refine ⟨_, _, _, rfl, rfl, rfl, fun t19 => ?_⟩
                refine ⟨_, _, _, rfl, rfl, rfl, fun t17 => ?_⟩
                intro _
                refine rd_int ?_
                refine ⟨_, _, _, rfl, rfl, rfl, fun t16 => ?_⟩
                exact ⟨_, _, rfl, rfl, ⟨.inr rfl, ⟨.inr rfl, ⟨.inr rfl, trivial⟩⟩⟩⟩
              · refine ⟨_, rfl, ?_⟩
                exact ⟨_, rfl, rfl, trivial⟩
            · refine rs_next ?_
              refine rs_at [some (.f x_thing), some (.f x_names), some (.f x_deep)] rfl ?_
              refine rs_seq ?_
              refine rs_if ?_
              refine rt_and (Z := Unit) ?_
              refine rt_op2B o_eqG ?_
              refine rd_op2 o_ix ?_
              refine rd_var rfl ?_
              intro _
              refine rd_int ?_
              refine ⟨_, _, _, rfl, rfl, rfl, fun t22 => ?_⟩
              intro _
              refine rd_str e_q_not ?_
              refine ⟨_, _, _, rfl, rfl, rfl, fun t21 => ?_⟩
              refine ⟨fun z => [some (.f x_thing), some (.f x_names), some (.f x_deep)], (), _, _, rfl, ⟨.inr rfl, ⟨.inr rfl, ⟨.inr rfl, trivial⟩⟩⟩, fun _ => ?_, fun p20 => ?_⟩
              · refine rt_op2B o_eq ?_
                refine rd_cb1 o_len ?_
                refine rd_var rfl ?_
                refine ⟨_, _, rfl, rfl, fun t24 => ?_⟩
                intro _
                refine rd_int ?_
                refine ⟨_, _, _, rfl, rfl, rfl, fun t23 => ?_⟩
                exact ⟨_, rfl, ⟨.inr rfl, ⟨.inr rfl, ⟨.inr rfl, trivial⟩⟩⟩⟩
              · refine ⟨_, _, rfl, fun _ => ?_, fun _ => ?_⟩
                · refine rs_ret ?_
                  refine rd_call hec hE ?_
                  refine ra_cons ?_
                  refine rd_op2 o_ix ?_
                  refine rd_var rfl ?_
                  intro _
                  refine rd_int ?_
                  refine ⟨_, _, _, rfl, rfl, rfl, fun t26 => ?_⟩
                  intro _
                  refine ra_cons ?_
                  refine rd_var rfl ?_
                  intro _
                  refine ra_cons ?_
                  refine rd_op2 o_add ?_
                  refine rd_var rfl ?_
                  intro _
                  refine rd_int ?_
                  refine ⟨_, _, _, rfl, rfl, rfl, fun t27 => ?_⟩
                  intro _
                  refine ra_nil ?_
                  refine ⟨(t26, x_names, t27), _, rfl, rfl, rfl, fun r25 => ?_⟩
                  refine ⟨_, rfl, ?_⟩
                  exact ⟨_, rfl, rfl, trivial⟩
                · refine rs_next ?_
                  refine rs_at [some (.f x_thing), some (.f x_names), some (.f x_deep)] rfl ?_
                  refine rs_seq ?_
                  refine rs_if ?_
                  refine rt_and (Z := Unit) ?_
                  refine rt_op2B o_inE ?_
                  refine rd_op2 o_ix ?_
                  refine rd_var rfl ?_
                  intro _
                  refine rd_int ?_
                  refine ⟨_, _, _, rfl, rfl, rfl, fun t30 => ?_⟩
                  intro _
                  refine rd_lst ?_
                  refine ra_cons ?_
                  refine rd_str e_q_and ?_
                  intro _
                  refine ra_cons ?_
                  refine rd_str e_q_or ?_
                  intro _
                  refine ra_nil ?_
                  refine ⟨[(.str q_and), (.str q_or)], rfl, (by show (2 : Nat) ≤ 1000; decide), ?_⟩
                  refine ⟨_, _, _, rfl, rfl, rfl, fun t29 => ?_⟩
                  refine ⟨fun z => [some (.f x_thing), some (.f x_names), some (.f x_deep)], (), _, _, rfl, ⟨.inr rfl, ⟨.inr rfl, ⟨.inr rfl, trivial⟩⟩⟩, fun _ => ?_, fun p28 => ?_⟩
                  · refine rt_op2B o_eq ?_
                    refine rd_cb1 o_len ?_
                    refine rd_var rfl ?_
                    refine ⟨_, _, rfl, rfl, fun t32 => ?_⟩
                    intro _
                    refine rd_int ?_
                    refine ⟨_, _, _, rfl, rfl, rfl, fun t31 => ?_⟩
                    exact ⟨_, rfl, ⟨.inr rfl, ⟨.inr rfl, ⟨.inr rfl, trivial⟩⟩⟩⟩
                  · refine ⟨_, _, rfl, fun _ => ?_, fun _ => ?_⟩
                    · refine rs_ret ?_
                      refine rd_andV (Z := Unit) ?_
                      refine rd_call hec hE ?_
                      refine ra_cons ?_
                      refine rd_op2 o_ix ?_
                      refine rd_var rfl ?_
                      intro _
                      refine rd_int ?_
                      refine ⟨_, _, _, rfl, rfl, rfl, fun t36 => ?_⟩
                      intro _
                      refine ra_cons ?_
                      refine rd_var rfl ?_
                      intro _
                      refine ra_cons ?_
                      refine rd_op2 o_add ?_
                      refine rd_var rfl ?_
                      intro _
                      refine rd_int ?_
                      refine ⟨_, _, _, rfl, rfl, rfl, fun t37 => ?_⟩
                      intro _
                      refine ra_nil ?_
                      refine ⟨(t36, x_names, t37), _, rfl, rfl, rfl, fun r35 => ?_⟩
                      refine ⟨_, _, rfl, rfl, fun t33 => ⟨fun z => [some (.f x_thing), some (.f x_names), some (.f x_deep)], (), _, _, rfl, ⟨.inr rfl, ⟨.inr rfl, ⟨.inr rfl, trivial⟩⟩⟩, fun _ => ?_, fun p34 => ?_⟩⟩
                      · refine rd_call hec hE ?_
                        refine ra_cons ?_
                        refine rd_op2 o_ix ?_
                        refine rd_var rfl ?_
                        intro _
                        refine rd_int ?_
                        refine ⟨_, _, _, rfl, rfl, rfl, fun t39 => ?_⟩
                        intro _
                        refine ra_cons ?_
                        refine rd_var rfl ?_
                        intro _
                        refine ra_cons ?_
                        refine rd_op2 o_add ?_
                        refine rd_var rfl ?_
                        intro _
                        refine rd_int ?_
                        refine ⟨_, _, _, rfl, rfl, rfl, fun t40 => ?_⟩
                        intro _
                        refine ra_nil ?_
                        refine ⟨(t39, x_names, t40), _, rfl, rfl, rfl, fun r38 => ?_⟩
                        exact ⟨_, _, rfl, rfl, ⟨.inr rfl, ⟨.inr rfl, ⟨.inr rfl, trivial⟩⟩⟩⟩
                      · refine ⟨_, rfl, ?_⟩
                        exact ⟨_, rfl, rfl, trivial⟩
                    · refine rs_next ?_
                      refine rs_at [some (.f x_thing), some (.f x_names), some (.f x_deep)] rfl ?_
                      refine rs_ret ?_
                      refine rd_bl ?_
                      refine ⟨_, rfl, ?_⟩
                      exact ⟨_, rfl, rfl, trivial⟩
theorem ok__law_good (T : Tx K mg) : FnOk P w K mg base CX0 26 T.a__law_good T.d__law_good ["thing"] (spOf (A := D) (R := D) EC.ec (fun a => [.f a]) (fun a => m__law_good a) (fun r => .f r) (fun r => [none])) := by
  refine T.F__law_good.ok sc__law_good (fun vs H Q E h => ?_) (fun cdv A outer s H vs Q E hr h => ?_)
  · obtain ⟨a, G, w, _, _, hl, _⟩ := h; exact hl
  · refine ⟨_, (pss_cons (ps_if (pw_or (pt_not (pt_val (pe_callB (call_isiK' (Kf := K) (by rfl)) (by rfl) T.n_isinstance PyProof.Rows.boot_isinstance (pa_cons (pv 0) (pa_cons (pe_bltn (v := .ty "tuple") (u := .type "tuple") (by rfl) T.n_tuple (by decide +kernel) rfl) pa_nil))))) (pw_or1 (pt_cmpR (op_neM (hu_64 hr)) (pe_callB (call_lenK (Kf := K) (by rfl)) (by rfl) T.n_len PySem.boot_len (pa_cons (pv 0) pa_nil)) pe_int (nomark _)))).pt (pss_one (ps_ret pe_bl)) pss_nil) (pss_cons (ps_if (pw_or (pt_not (pt_val (pe_callB (call_isiK' (Kf := K) (by rfl)) (by rfl) T.n_isinstance PyProof.Rows.boot_isinstance (pa_cons (pe_ix (ix_anyK (Kf := K) (by rfl)) (pv 0) pe_int (fun _ _ => rfl)) (pa_cons (pe_bltn (v := .ty "list") (u := .type "list") (by rfl) T.n_list (by decide +kernel) rfl) pa_nil))))) (pw_or1 (pt_not (pt_val (pe_callB (call_isiK' (Kf := K) (by rfl)) (by rfl) T.n_isinstance PyProof.Rows.boot_isinstance (pa_cons (pe_ix (ix_anyK (Kf := K) (by rfl)) (pv 0) pe_int (fun _ _ => rfl)) (pa_cons (pe_bltn (v := .ty "list") (u := .type "list") (by rfl) T.n_list (by decide +kernel) rfl) pa_nil))))))).pt (pss_one (ps_ret pe_bl)) pss_nil) (pss_cons (ps_if (pw_or (pt_cmpR op_gt (pe_callB (call_lenK (Kf := K) (by rfl)) (by rfl) T.n_len PySem.boot_len (pa_cons (pe_ix (ix_anyK (Kf := K) (by rfl)) (pv 0) pe_int (fun _ _ => rfl)) pa_nil)) pe_int (nomark _)) (pw_or1 (pt_not (pt_chain op_ltA op_ltA pe_int (pe_callB (call_lenK (Kf := K) (by rfl)) (by rfl) T.n_len PySem.boot_len (pa_cons (pe_ix (ix_anyK (Kf := K) (by rfl)) (pv 0) pe_int (fun _ _ => rfl)) pa_nil)) pe_int)))).pt (pss_one (ps_ret pe_bl)) pss_nil) (pss_cons (ps_for PassesOwn.never rfl (pi_listK (Kf := K) (by rfl) (pe_ix (ix_anyK (Kf := K) (by rfl)) (pv 0) pe_int (fun _ _ => rfl))) (pg_name (i := 1) sc__law_good.nd rfl (by first | exact .inl rfl | exact .inr rfl)) (pss_one (ps_if (pw_or (pt_not (pt_val (pe_callB (call_isiK' (Kf := K) (by rfl)) (by rfl) T.n_isinstance PyProof.Rows.boot_isinstance (pa_cons (pv 1) (pa_cons (pe_bltn (v := .ty "tuple") (u := .type "tuple") (by rfl) T.n_tuple (by decide +kernel) rfl) pa_nil))))) (pw_or1 (pt_cmpR (op_neM (hu_64 hr)) (pe_callB (call_lenK (Kf := K) (by rfl)) (by rfl) T.n_len PySem.boot_len (pa_cons (pv 1) pa_nil)) pe_int (nomark _)))).pt (pss_one (ps_ret pe_bl)) pss_nil))) (pss_cons (ps_set (i := 2) sc__law_good.nd rfl (by first | exact .inl rfl | exact .inr rfl) (pe_op op_catR (pe_ix (ix_anyK (Kf := K) (by rfl)) (pv 0) pe_int (fun _ _ => rfl)) (pe_lc (own := [("gate", 1)]) rfl (by exact sc__law_good.nd) (pi_listK (Kf := K) (by rfl) (pe_ix (ix_anyK (Kf := K) (by rfl)) (pv 0) pe_int (fun _ _ => rfl))) blk__law_good_3 (fun _ _ _ _ _ => (pg_name (i := 1) sc__law_good.nd rfl (by first | exact .inl rfl | exact .inr rfl))) (fun _ _ _ _ _ => pts_nil) (fun _ _ _ _ _ => (pe_ix (ix_anyK (Kf := K) (by rfl)) (pv 1) pe_int (fun _ _ => rfl)))))) (pss_cons (ps_if (pt_cmpR (op_neN (hu_64 hr)) (pe_lc (own := [("name", 3)]) rfl (by exact sc__law_good.nd) (pi_listK (Kf := K) (by rfl) (pv 2)) blk__law_good_2 (fun _ _ _ _ _ => (pg_name (i := 3) sc__law_good.nd rfl (by first | exact .inl rfl | exact .inr rfl))) (fun _ _ _ _ _ => (pts_one (pt_not (pt_val (pe_call (ok__law_name_good T) (hr.mono (by decide)) (by rfl) T.g__law_name_good T.F__law_name_good.kp T.b__law_name_good .nil (show Passes CX0 _ E from pass0) (pa_cons (pv 3) pa_nil)))))) (fun _ _ _ _ _ => (pv 3))) (pe_lst pa_nil) (nomark _)) (pss_one (ps_ret pe_bl)) pss_nil) (pss_cons (ps_if (pt_cmpR (op_neN (hu_64 hr)) (pe_lc (own := [("name", 3)]) rfl (by exact sc__law_good.nd) (pi_listK (Kf := K) (by rfl) (pv 2)) blk__law_good_1 (fun _ _ _ _ _ => (pg_name (i := 3) sc__law_good.nd rfl (by first | exact .inl rfl | exact .inr rfl))) (fun _ _ _ _ _ => (pts_one (pt_cmpR op_gt (pe_bmK (Kf := K) (by rfl) PySem.F.plainAttrs_list PySem.F.slot_list_count PySem.F.type_list_count (mt_countK (Kf := K) (by rfl)) (pv 2) (pa_cons (pv 3) pa_nil)) pe_int (nomark _)))) (fun _ _ _ _ _ => (pv 3))) (pe_lst pa_nil) (nomark _)) (pss_one (ps_ret pe_bl)) pss_nil) (pss_one (ps_ret (pe_cmpR (op_eqN (hu_64 hr)) (pe_lc (own := [("gate", 1)]) rfl (by exact sc__law_good.nd) (pi_listK (Kf := K) (by rfl) (pe_ix (ix_anyK (Kf := K) (by rfl)) (pv 0) pe_int (fun _ _ => rfl))) blk__law_good_0 (fun _ _ _ _ _ => (pg_name (i := 1) sc__law_good.nd rfl (by first | exact .inl rfl | exact .inr rfl))) (fun _ _ _ _ _ => (pts_one (pt_not (pt_val (pe_call (ok__law_rule_good T 24) (hr.mono (by decide)) (by rfl) T.g__law_rule_good T.F__law_rule_good.kp T.b__law_rule_good .nil (show Passes CX0 _ E from pass0) (pa_cons (pe_ix (ix_anyK (Kf := K) (by rfl)) (pv 1) pe_int (fun _ _ => rfl)) (pa_cons (pv 2) (pa_cons pe_int pa_nil)))))))) (fun _ _ _ _ _ => (pv 1))) (pe_lst pa_nil) (nomark _))))))))))), ?_⟩
    refine fn_body (K := K) [] (fun _ => by show (1 : Nat) ≤ 4; decide) (fun _ => by show ∀ k ∈ ([] : List Nat), k < 1; decide) h (fun F x_thing hec hE hK hpv => ?_)
    skip
    show RS F [] [some (.f x_thing), none, none, none] (m__law_good x_thing) _ _ _
    unfold m__law_good
    refine rs_seq ?_
    refine rs_if ?_
    refine rt_or (Z := Unit) ?_
    refine rt_not ?_
    refine rt_val ?_
    refine rd_isi .tuple ?_
    refine rd_var rfl ?_
    refine ⟨_, _, rfl, rfl, fun t3 => ?_⟩
    refine ⟨_, _, rfl, rfl, fun t2 => ?_⟩
    refine ⟨fun z => [some (.f x_thing), none, none, none], (), _, _, rfl, ⟨.inr rfl, ⟨.inl rfl, ⟨.inl rfl, ⟨.inl rfl, trivial⟩⟩⟩⟩, fun _ => ?_, fun p1 => ?_⟩
    · refine rt_op2B o_ne ?_
      refine rd_cb1 o_len ?_
      refine rd_var rfl ?_
      refine ⟨_, _, rfl, rfl, fun t5 => ?_⟩
      intro _
      refine rd_int ?_
      refine ⟨_, _, _, rfl, rfl, rfl, fun t4 => ?_⟩
      exact ⟨_, rfl, ⟨.inr rfl, ⟨.inl rfl, ⟨.inl rfl, ⟨.inl rfl, trivial⟩⟩⟩⟩⟩
    · refine ⟨_, _, rfl, fun _ => ?_, fun _ => ?_⟩
      · refine rs_ret ?_
        refine rd_bl ?_
        refine ⟨_, rfl, ?_⟩
        exact ⟨_, rfl, rfl, trivial⟩
      · refine rs_next ?_
        refine rs_at [some (.f x_thing), none, none, none] rfl ?_
        refine rs_seq ?_
        refine rs_if ?_
        refine rt_or (Z := Unit) ?_
        refine rt_not ?_
        refine rt_val ?_
        refine rd_isi .list ?_
        refine rd_op2 o_ix ?_
        refine rd_var rfl ?_
        intro _
        refine rd_int ?_
        refine ⟨_, _, _, rfl, rfl, rfl, fun t9 => ?_⟩
        refine ⟨_, _, rfl, rfl, fun t8 => ?_⟩
        refine ⟨_, _, rfl, rfl, fun t7 => ?_⟩
        refine ⟨fun z => [some (.f x_thing), none, none, none], (), _, _, rfl, ⟨.inr rfl, ⟨.inl rfl, ⟨.inl rfl, ⟨.inl rfl, trivial⟩⟩⟩⟩, fun _ => ?_, fun p6 => ?_⟩
        · refine rt_not ?_
          refine rt_val ?_
          refine rd_isi .list ?_
          refine rd_op2 o_ix ?_
          refine rd_var rfl ?_
          intro _
          refine rd_int ?_
          refine ⟨_, _, _, rfl, rfl, rfl, fun t12 => ?_⟩
          refine ⟨_, _, rfl, rfl, fun t11 => ?_⟩
          refine ⟨_, _, rfl, rfl, fun t10 => ?_⟩
          exact ⟨_, rfl, ⟨.inr rfl, ⟨.inl rfl, ⟨.inl rfl, ⟨.inl rfl, trivial⟩⟩⟩⟩⟩
        · refine ⟨_, _, rfl, fun _ => ?_, fun _ => ?_⟩
          · refine rs_ret ?_
            refine rd_bl ?_
            refine ⟨_, rfl, ?_⟩
            exact ⟨_, rfl, rfl, trivial⟩
          · refine rs_next ?_
            refine rs_at [some (.f x_thing), none, none, none] rfl ?_
            refine rs_seq ?_
            refine rs_if ?_
            refine rt_or (Z := Unit) ?_
            refine rt_op2B o_gt ?_
            refine rd_cb1 o_len ?_
            refine rd_op2 o_ix ?_
            refine rd_var rfl ?_
            intro _
            refine rd_int ?_
            refine ⟨_, _, _, rfl, rfl, rfl, fun t16 => ?_⟩
            refine ⟨_, _, rfl, rfl, fun t15 => ?_⟩
            intro _
            refine rd_int ?_
            refine ⟨_, _, _, rfl, rfl, rfl, fun t14 => ?_⟩
            refine ⟨fun z => [some (.f x_thing), none, none, none], (), _, _, rfl, ⟨.inr rfl, ⟨.inl rfl, ⟨.inl rfl, ⟨.inl rfl, trivial⟩⟩⟩⟩, fun _ => ?_, fun p13 => ?_⟩
            · refine rt_not ?_
              refine rt_chain o_lt o_lt ?_
              refine rd_int ?_
              intro _
              refine rd_cb1 o_len ?_
              refine rd_op2 o_ix ?_
              refine rd_var rfl ?_
              intro _
              refine rd_int ?_
              refine ⟨_, _, _, rfl, rfl, rfl, fun t21 => ?_⟩
              refine ⟨_, _, rfl, rfl, fun t20 => ?_⟩
              refine ⟨_, _, _, rfl, rfl, rfl, fun t17 => ⟨_, _, rfl, fun _ _ => ?_, fun c18 => ?_⟩⟩
              · refine rd_int ?_
                exact ⟨_, _, rfl, rfl, rfl, ⟨.inr rfl, ⟨.inl rfl, ⟨.inl rfl, ⟨.inl rfl, trivial⟩⟩⟩⟩⟩
              · exact ⟨_, rfl, ⟨.inr rfl, ⟨.inl rfl, ⟨.inl rfl, ⟨.inl rfl, trivial⟩⟩⟩⟩⟩
            · refine ⟨_, _, rfl, fun _ => ?_, fun _ => ?_⟩
              · refine rs_ret ?_
                refine rd_bl ?_
                refine ⟨_, rfl, ?_⟩
                exact ⟨_, rfl, rfl, trivial⟩
              · refine rs_next ?_
                refine rs_at [some (.f x_thing), none, none, none] rfl ?_
                refine rs_seq ?_
                refine rs_for (Z := Unit) (R' := D) [1] ?_
                refine ri_lst ?_
                refine rd_op2 o_ix ?_
                refine rd_var rfl ?_
                intro _
                refine rd_int ?_
                refine ⟨_, _, _, rfl, rfl, rfl, fun t25 => ?_⟩
                refine ⟨_, _, rfl, rfl, fun ds24 _ => ?_⟩
                refine ⟨fun z23 => [some (.f x_thing), none, none, none], _, _, _, rfl, ⟨.inr rfl, ⟨.inl rfl, ⟨.inl rfl, ⟨.inl rfl, trivial⟩⟩⟩⟩, fun _ => (by first | exact trivial | rfl | exact ⟨rfl, rfl⟩), fun z23 d22 => ?_, fun z23 => ?_⟩
                · refine rg_name (by show (1 : Nat) < 4; decide) rfl (hpv _ (by decide)) ?_
                  refine rs_at [some (.f x_thing), some (.f d22), none, none] rfl ?_
                  refine rs_if ?_
                  refine rt_or (Z := Unit) ?_
                  refine rt_not ?_
                  refine rt_val ?_
                  refine rd_isi .tuple ?_
                  refine rd_var rfl ?_
                  refine ⟨_, _, rfl, rfl, fun t28 => ?_⟩
                  refine ⟨_, _, rfl, rfl, fun t27 => ?_⟩
                  refine ⟨fun z => [some (.f x_thing), some (.f d22), none, none], (), _, _, rfl, ⟨.inr rfl, ⟨.inr rfl, ⟨.inl rfl, ⟨.inl rfl, trivial⟩⟩⟩⟩, fun _ => ?_, fun p26 => ?_⟩
                  · refine rt_op2B o_ne ?_
                    refine rd_cb1 o_len ?_
                    refine rd_var rfl ?_
                    refine ⟨_, _, rfl, rfl, fun t30 => ?_⟩
                    intro _
                    refine rd_int ?_
                    refine ⟨_, _, _, rfl, rfl, rfl, fun t29 => ?_⟩
                    exact ⟨_, rfl, ⟨.inr rfl, ⟨.inr rfl, ⟨.inl rfl, ⟨.inl rfl, trivial⟩⟩⟩⟩⟩
                  · refine ⟨_, _, rfl, fun _ => ?_, fun _ => ?_⟩
                    · refine rs_ret ?_
                      refine rd_bl ?_
                      refine ⟨_, rfl, ?_⟩
                      exact ⟨_, rfl, ⟨_, rfl, rfl, trivial⟩⟩
                    · refine rs_next ?_
                      exact ⟨_, rfl, ⟨.inr rfl, ⟨.inl rfl, ⟨.inl rfl, ⟨.inl rfl, trivial⟩⟩⟩⟩⟩
                · refine rs_at [some (.f x_thing), none, none, none] rfl ?_
                  refine rs_onN ?_
                  refine rs_seq ?_
                  refine rs_set ?_ rfl (hpv _ (by decide))
                  refine rd_fz ?_
                  refine rd_op2L o_cat ?_
                  refine rd_op2 o_ix ?_
                  refine rd_var rfl ?_
                  intro _
                  refine rd_int ?_
                  refine ⟨_, _, _, rfl, rfl, rfl, fun t32 => ?_⟩
                  intro _
                  refine rd_lcR [1] (fun i hi => hi) (all1 (hpv _ (by decide))) ?_
                  refine ri_lst ?_
                  refine rd_op2 o_ix ?_
                  refine rd_var rfl ?_
                  intro _
                  refine rd_int ?_
                  refine ⟨_, _, _, rfl, rfl, rfl, fun t36 => ?_⟩
                  refine ⟨_, _, rfl, rfl, fun ds35 _ => ?_⟩
                  refine ⟨[some (.f x_thing), none, none, none], _, _, rfl, ⟨.inr rfl, ⟨.inl rfl, ⟨.inl rfl, ⟨.inl rfl, trivial⟩⟩⟩⟩, (by first | exact trivial | rfl | exact ⟨rfl, rfl⟩), (all1 rfl), rfl, fun d33 _ _ => ?_, fun ys34 => ?_⟩
                  · refine rg_name (by show (1 : Nat) < 4; decide) rfl (hpv _ (by decide)) ?_
                    refine rt_true rfl ?_
                    refine ⟨_, .ok none, (if_pos rfl).symm, fun _ => ?_, fun h => by cases h⟩
                    refine rd_op2 o_ix ?_
                    refine rd_var rfl ?_
                    intro _
                    refine rd_int ?_
                    refine ⟨_, _, _, rfl, rfl, rfl, fun t37 => ?_⟩
                    exact ⟨_, rfl, rfl, ⟨.inr rfl, ⟨.inl rfl, ⟨.inl rfl, ⟨.inl rfl, trivial⟩⟩⟩⟩⟩
                  · refine ⟨_, _, _, rfl, rfl, rfl, fun t31 => ?_⟩
                    refine ⟨_, rfl, ?_⟩
                    refine ⟨_, rfl, (by show (2 : Nat) < 4; decide), ?_⟩
                    refine rs_at [some (.f x_thing), none, some (.f (.lst t31)), none] rfl ?_
                    refine rs_seq ?_
                    refine rs_if ?_
                    refine rt_op2B o_neN ?_
                    refine rd_lcR [3] (fun i hi => hi) (all1 (hpv _ (by decide))) ?_
                    refine ri_lst ?_
                    refine rd_var rfl ?_
                    refine ⟨_, _, rfl, rfl, fun ds41 _ => ?_⟩
                    refine ⟨[some (.f x_thing), none, some (.f (.lst t31)), none], _, _, rfl, ⟨.inr rfl, ⟨.inl rfl, ⟨.inr rfl, ⟨.inl rfl, trivial⟩⟩⟩⟩, (by first | exact trivial | rfl | exact ⟨rfl, rfl⟩), (all1 rfl), rfl, fun d39 _ _ => ?_, fun ys40 => ?_⟩
                    · refine rg_name (by show (3 : Nat) < 4; decide) rfl (hpv _ (by decide)) ?_
                      refine rt_not ?_
                      refine rt_val ?_
                      refine rd_call hec hE ?_
                      refine ra_cons ?_
                      refine rd_var rfl ?_
                      intro _
                      refine ra_nil ?_
                      refine ⟨(d39), _, rfl, rfl, rfl, fun r43 => ?_⟩
                      refine ⟨_, _, rfl, rfl, fun t42 => ?_⟩
                      refine ⟨_, _, rfl, fun _ => ?_, fun _ => ⟨rfl, ⟨.inr rfl, ⟨.inl rfl, ⟨.inr rfl, ⟨.inl rfl, trivial⟩⟩⟩⟩⟩⟩
                      refine rd_var rfl ?_
                      exact ⟨_, rfl, rfl, ⟨.inr rfl, ⟨.inl rfl, ⟨.inr rfl, ⟨.inl rfl, trivial⟩⟩⟩⟩⟩
                    · intro _
                      refine rd_lst ?_
                      refine ra_nil ?_
                      refine ⟨[], rfl, (by show (0 : Nat) ≤ 1000; decide), ?_⟩
                      refine ⟨_, _, _, rfl, rfl, rfl, fun t38 => ?_⟩
                      refine ⟨_, _, rfl, fun _ => ?_, fun _ => ?_⟩
                      · refine rs_ret ?_
                        refine rd_bl ?_
                        refine ⟨_, rfl, ?_⟩
                        exact ⟨_, rfl, rfl, trivial⟩
                      · refine rs_next ?_
                        refine rs_at [some (.f x_thing), none, some (.f (.lst t31)), none] rfl ?_
                        refine rs_seq ?_
                        refine rs_if ?_
                        refine rt_op2B o_neN ?_
                        refine rd_lcR [3] (fun i hi => hi) (all1 (hpv _ (by decide))) ?_
                        refine ri_lst ?_
                        refine rd_var rfl ?_
                        refine ⟨_, _, rfl, rfl, fun ds47 _ => ?_⟩
                        refine ⟨[some (.f x_thing), none, some (.f (.lst t31)), none], _, _, rfl, ⟨.inr rfl, ⟨.inl rfl, ⟨.inr rfl, ⟨.inl rfl, trivial⟩⟩⟩⟩, (by first | exact trivial | rfl | exact ⟨rfl, rfl⟩), (all1 rfl), rfl, fun d45 _ _ => ?_, fun ys46 => ?_⟩
                        · refine rg_name (by show (3 : Nat) < 4; decide) rfl (hpv _ (by decide)) ?_
                          refine rt_op2B o_gt ?_
                          refine rd_count ?_
                          refine rd_var rfl ?_
                          refine ⟨_, _, rfl, rfl, fun t50 _ => ?_⟩
                          refine rd_var rfl ?_
                          refine ⟨_, _, _, rfl, rfl, rfl, fun t49 => ?_⟩
                          intro _
                          refine rd_int ?_
                          refine ⟨_, _, _, rfl, rfl, rfl, fun t48 => ?_⟩
                          refine ⟨_, _, rfl, fun _ => ?_, fun _ => ⟨rfl, ⟨.inr rfl, ⟨.inl rfl, ⟨.inr rfl, ⟨.inl rfl, trivial⟩⟩⟩⟩⟩⟩
                          refine rd_var rfl ?_
                          exact ⟨_, rfl, rfl, ⟨.inr rfl, ⟨.inl rfl, ⟨.inr rfl, ⟨.inl rfl, trivial⟩⟩⟩⟩⟩
                        · intro _
                          refine rd_lst ?_
                          refine ra_nil ?_
                          refine ⟨[], rfl, (by show (0 : Nat) ≤ 1000; decide), ?_⟩
                          refine ⟨_, _, _, rfl, rfl, rfl, fun t44 => ?_⟩
                          refine ⟨_, _, rfl, fun _ => ?_, fun _ => ?_⟩
                          · refine rs_ret ?_
                            refine rd_bl ?_
                            refine ⟨_, rfl, ?_⟩
                            exact ⟨_, rfl, rfl, trivial⟩
                          · refine rs_next ?_
                            refine rs_at [some (.f x_thing), none, some (.f (.lst t31)), none] rfl ?_
                            refine rs_ret ?_
                            refine rd_op2B o_eqN ?_
                            refine rd_lcR [1] (fun i hi => hi) (all1 (hpv _ (by decide))) ?_
                            refine ri_lst ?_
                            refine rd_op2 o_ix ?_
                            refine rd_var rfl ?_
                            intro _
                            refine rd_int ?_
                            refine ⟨_, _, _, rfl, rfl, rfl, fun t55 => ?_⟩
                            refine ⟨_, _, rfl, rfl, fun ds54 _ => ?_⟩
                            refine ⟨[some (.f x_thing), none, some (.f (.lst t31)), none], _, _, rfl, ⟨.inr rfl, ⟨.inl rfl, ⟨.inr rfl, ⟨.inl rfl, trivial⟩⟩⟩⟩, (by first | exact trivial | rfl | exact ⟨rfl, rfl⟩), (all1 rfl), rfl, fun d52 _ _ => ?_, fun ys53 => ?_⟩
                            · refine rg_name (by show (1 : Nat) < 4; decide) rfl (hpv _ (by decide)) ?_
                              refine rt_not ?_
                              refine rt_val ?_
                              refine rd_call hec hE ?_
                              refine ra_cons ?_
                              refine rd_op2 o_ix ?_
                              refine rd_var rfl ?_
                              intro _
                              refine rd_int ?_
                              refine ⟨_, _, _, rfl, rfl, rfl, fun t58 => ?_⟩
                              intro _
                              refine ra_cons ?_
                              refine rd_var rfl ?_
                              intro _
                              refine ra_cons ?_
                              refine rd_int ?_
                              intro _
                              refine ra_nil ?_
                              refine ⟨(t58, (.lst t31), (.int 1)), _, rfl, rfl, rfl, fun r57 => ?_⟩
                              refine ⟨_, _, rfl, rfl, fun t56 => ?_⟩
                              refine ⟨_, _, rfl, fun _ => ?_, fun _ => ⟨rfl, ⟨.inr rfl, ⟨.inl rfl, ⟨.inr rfl, ⟨.inl rfl, trivial⟩⟩⟩⟩⟩⟩
                              refine rd_var rfl ?_
                              exact ⟨_, rfl, rfl, ⟨.inr rfl, ⟨.inl rfl, ⟨.inr rfl, ⟨.inl rfl, trivial⟩⟩⟩⟩⟩
                            · intro _
                              refine rd_lst ?_
                              refine ra_nil ?_
                              refine ⟨[], rfl, (by show (0 : Nat) ≤ 1000; decide), ?_⟩
                              refine ⟨_, _, _, rfl, rfl, rfl, fun t51 => ?_⟩
                              refine ⟨_, rfl, ?_⟩
                              exact ⟨_, rfl, rfl, trivial⟩
theorem ok__law_deep (T : Tx K mg) : ∀ n_ : Nat, FnOk P w K mg base CX0 (n_ + 1) T.a__law_deep T.d__law_deep ["thing"] (spOf (A := D) (R := D) EC.ec (fun a => [.f a]) (fun a => m__law_deep n_ a) (fun r => .f r) (fun r => [none]))
  | 0 => by
    refine T.F__law_deep.ok sc__law_deep (fun vs H Q E h => ?_) (fun cdv A outer s H vs Q E hr h => ?_)
    · obtain ⟨a, G, w, _, _, hl, _⟩ := h; exact hl
    · obtain ⟨a, G, w, _, _, _, _, nf, _⟩ := h; exact absurd rfl nf
  | n_ + 1 => by
    refine T.F__law_deep.ok sc__law_deep (fun vs H Q E h => ?_) (fun cdv A outer s H vs Q E hr h => ?_)
    · obtain ⟨a, G, w, _, _, hl, _⟩ := h; exact hl
    · refine ⟨_, (pss_cons (ps_if (pt_val (pe_callB (call_isiK' (Kf := K) (by rfl)) (by rfl) T.n_isinstance PyProof.Rows.boot_isinstance (pa_cons (pv 0) (pa_cons (pe_bltn (v := .ty "list") (u := .type "list") (by rfl) T.n_list (by decide +kernel) rfl) pa_nil)))) (pss_one (ps_ret (pe_lc (own := [("one", 1)]) rfl (by exact sc__law_deep.nd) (pi_listK (Kf := K) (by rfl) (pv 0)) blk__law_deep_1 (fun _ _ _ _ _ => (pg_name (i := 1) sc__law_deep.nd rfl (by first | exact .inl rfl | exact .inr rfl))) (fun _ _ _ _ _ => pts_nil) (fun _ _ _ _ _ => (pe_call (ok__law_deep T n_) (hr.mono (by omega)) (by rfl) T.g__law_deep T.F__law_deep.kp T.b__law_deep .nil (show Passes CX0 _ E from pass0) (pa_cons (pv 1) pa_nil)))))) pss_nil) (pss_cons (ps_if (pt_val (pe_callB (call_isiK' (Kf := K) (by rfl)) (by rfl) T.n_isinstance PyProof.Rows.boot_isinstance (pa_cons (pv 0) (pa_cons (pe_bltn (v := .ty "tuple") (u := .type "tuple") (by rfl) T.n_tuple (by decide +kernel) rfl) pa_nil)))) (pss_one (ps_ret (pe_callTy (call_tupleK (Kf := K) (by rfl) (by rfl)) (by rfl) T.n_tuple PyProof.Rows.boot_tuple (pa_cons (pe_lc (own := [("one", 1)]) rfl (by exact sc__law_deep.nd) (pi_tupK (Kf := K) (by rfl) (pv 0)) blk__law_deep_0 (fun _ _ _ _ _ => (pg_name (i := 1) sc__law_deep.nd rfl (by first | exact .inl rfl | exact .inr rfl))) (fun _ _ _ _ _ => pts_nil) (fun _ _ _ _ _ => (pe_call (ok__law_deep T n_) (hr.mono (by omega)) (by rfl) T.g__law_deep T.F__law_deep.kp T.b__law_deep .nil (show Passes CX0 _ E from pass0) (pa_cons (pv 1) pa_nil)))) pa_nil)))) pss_nil) (pss_one (ps_ret (pv 0))))), ?_⟩
      refine fn_body (K := K) [] (fun _ => by show (1 : Nat) ≤ 2; decide) (fun _ => by show ∀ k ∈ ([] : List Nat), k < 1; decide) h (fun F x_thing hec hE hK hpv => ?_)
      skip
      show RS F [] [some (.f x_thing), none] (m__law_deep (n_ + 1) x_thing) _ _ _
      rw [m__law_deep]
      refine rs_seq ?_
      refine rs_if ?_
      refine rt_val ?_
      refine rd_isi .list ?_
      refine rd_var rfl ?_
      refine ⟨_, _, rfl, rfl, fun t2 => ?_⟩
      refine ⟨_, _, rfl, rfl, fun t1 => ?_⟩
      refine ⟨_, _, rfl, fun _ => ?_, fun _ => ?_⟩
      · refine rs_ret ?_
        refine rd_fz ?_
        refine rd_lcR [1] (fun i hi => hi) (all1 (hpv _ (by decide))) ?_
        refine ri_lst ?_
        refine rd_var rfl ?_
        refine ⟨_, _, rfl, rfl, fun ds5 _ => ?_⟩
        refine ⟨[some (.f x_thing), none], _, _, rfl, ⟨.inr rfl, ⟨.inl rfl, trivial⟩⟩, (by first | exact trivial | rfl | exact ⟨rfl, rfl⟩), (all1 rfl), rfl, fun d3 _ _ => ?_, fun ys4 => ?_⟩
        · refine rg_name (by show (1 : Nat) < 2; decide) rfl (hpv _ (by decide)) ?_
          refine rt_true rfl ?_
          refine ⟨_, .ok none, (if_pos rfl).symm, fun _ => ?_, fun h => by cases h⟩
          refine rd_call hec hE ?_
          refine ra_cons ?_
          refine rd_var rfl ?_
          intro _
          refine ra_nil ?_
          refine ⟨(d3), _, rfl, rfl, rfl, fun r6 => ?_⟩
          exact ⟨_, rfl, rfl, ⟨.inr rfl, ⟨.inl rfl, trivial⟩⟩⟩
        · refine ⟨_, rfl, ?_⟩
          refine ⟨_, rfl, ?_⟩
          exact ⟨_, rfl, rfl, trivial⟩
      · refine rs_next ?_
        refine rs_at [some (.f x_thing), none] rfl ?_
        refine rs_seq ?_
        refine rs_if ?_
        refine rt_val ?_
        refine rd_isi .tuple ?_
        refine rd_var rfl ?_
        refine ⟨_, _, rfl, rfl, fun t8 => ?_⟩
        refine ⟨_, _, rfl, rfl, fun t7 => ?_⟩
        refine ⟨_, _, rfl, fun _ => ?_, fun _ => ?_⟩
        · refine rs_ret ?_
          refine rd_tupL ?_
          refine rd_lcR [1] (fun i hi => hi) (all1 (hpv _ (by decide))) ?_
          refine ri_tup ?_
          refine rd_var rfl ?_
          refine ⟨_, _, rfl, rfl, fun ds12 _ => ?_⟩
          refine ⟨[some (.f x_thing), none], _, _, rfl, ⟨.inr rfl, ⟨.inl rfl, trivial⟩⟩, (by first | exact trivial | rfl | exact ⟨rfl, rfl⟩), (all1 rfl), rfl, fun d10 _ _ => ?_, fun ys11 => ?_⟩
          · refine rg_name (by show (1 : Nat) < 2; decide) rfl (hpv _ (by decide)) ?_
            refine rt_true rfl ?_
            refine ⟨_, .ok none, (if_pos rfl).symm, fun _ => ?_, fun h => by cases h⟩
            refine rd_call hec hE ?_
            refine ra_cons ?_
            refine rd_var rfl ?_
            intro _
            refine ra_nil ?_
            refine ⟨(d10), _, rfl, rfl, rfl, fun r13 => ?_⟩
            exact ⟨_, rfl, rfl, ⟨.inr rfl, ⟨.inl rfl, trivial⟩⟩⟩
          · refine ⟨_, _, rfl, rfl, fun t9 => ?_⟩
            refine ⟨_, rfl, ?_⟩
            exact ⟨_, rfl, rfl, trivial⟩
        · refine rs_next ?_
          refine rs_at [some (.f x_thing), none] rfl ?_
          refine rs_ret ?_
          refine rd_var rfl ?_
          refine ⟨_, rfl, ?_⟩
          exact ⟨_, rfl, rfl, trivial⟩
theorem ok_wires_of (T : Tx K mg) : FnOk P w K mg base CX0 1 T.a_wires_of T.d_wires_of ["net"] (spOf (A := D) (R := List D) EC.ec (fun a => [.f a]) (fun a => m_wires_of a) (fun r => .l r) (fun r => [none])) := by
  refine T.F_wires_of.ok sc_wires_of (fun vs H Q E h => ?_) (fun cdv A outer s H vs Q E hr h => ?_)
  · obtain ⟨a, G, w, _, _, hl, _⟩ := h; exact hl
  · refine ⟨_, (pss_one (ps_ret (pe_op op_catR (pe_callTy (call_listK (Kf := K) (by rfl)) (by rfl) T.n_list PyProof.Rows.boot_list (pa_cons (pe_ix (ix_anyK (Kf := K) (by rfl)) (pv 0) pe_int (fun _ _ => rfl)) pa_nil)) (pe_lc (own := [("name", 1), ("rule", 2)]) rfl (by exact sc_wires_of.nd) (pi_listK (Kf := K) (by rfl) (pe_ix (ix_anyK (Kf := K) (by rfl)) (pv 0) pe_int (fun _ _ => rfl))) blk_wires_of_0 (fun _ _ _ _ _ => (pg_tupK (Kf := K) (n := 2) (by rfl) rfl (pgs_cons (pg_name (i := 1) sc_wires_of.nd rfl (by first | exact .inl rfl | exact .inr rfl)) (pgs_cons (pg_name (i := 2) sc_wires_of.nd rfl (by first | exact .inl rfl | exact .inr rfl)) pgs_nil)))) (fun _ _ _ _ _ => pts_nil) (fun _ _ _ _ _ => (pv 1)))))), ?_⟩
    refine fn_body (K := K) [] (fun _ => by show (1 : Nat) ≤ 3; decide) (fun _ => by show ∀ k ∈ ([] : List Nat), k < 1; decide) h (fun F x_net hec hE hK hpv => ?_)
    skip
    show RS F [] [some (.f x_net), none, none] (m_wires_of x_net) _ _ _
    unfold m_wires_of
    refine rs_ret ?_
    refine rd_op2L o_cat ?_
    refine rd_cb1L o_list ?_
    refine rd_op2 o_ix ?_
    refine rd_var rfl ?_
    intro _
    refine rd_int ?_
    refine ⟨_, _, _, rfl, rfl, rfl, fun t3 => ?_⟩
    refine ⟨_, _, rfl, rfl, fun t2 => ?_⟩
    intro _
    refine rd_lcR [1, 2] (fun i hi => hi) (all2 (hpv _ (by decide)) (hpv _ (by decide))) ?_
    refine ri_lst ?_
    refine rd_op2 o_ix ?_
    refine rd_var rfl ?_
    intro _
    refine rd_int ?_
    refine ⟨_, _, _, rfl, rfl, rfl, fun t7 => ?_⟩
    refine ⟨_, _, rfl, rfl, fun ds6 _ => ?_⟩
    refine ⟨[some (.f x_net), none, none], _, _, rfl, ⟨.inr rfl, ⟨.inl rfl, ⟨.inl rfl, trivial⟩⟩⟩, (by first | exact trivial | rfl | exact ⟨rfl, rfl⟩), (all2 rfl rfl), rfl, fun d4 _ _ => ?_, fun ys5 => ?_⟩
    · refine rg_n2 ⟨_, rfl, fun p8 => ?_⟩
      refine rgs_cons (by show (1 : Nat) < 3; decide) rfl (hpv _ (by decide)) ?_
      refine rgs_cons (by show (2 : Nat) < 3; decide) rfl (hpv _ (by decide)) ?_
      refine rgs_nil ?_
      refine rt_true rfl ?_
      refine ⟨_, .ok none, (if_pos rfl).symm, fun _ => ?_, fun h => by cases h⟩
      refine rd_var rfl ?_
      exact ⟨_, rfl, rfl, ⟨.inr rfl, ⟨.inl rfl, ⟨.inl rfl, trivial⟩⟩⟩⟩
    · refine ⟨_, _, _, rfl, rfl, rfl, fun t1 => ?_⟩
      refine ⟨_, rfl, ?_⟩
      exact ⟨_, rfl, rfl, trivial⟩
theorem ok_is_rule (T : Tx K mg) : ∀ n_ : Nat, FnOk P w K mg base CX0 (n_ + 1) T.a_is_rule T.d_is_rule ["thing", "names", "deep"] (spOf (A := D × D × D) (R := D) EC.ec (fun a => [.f a.1, .f a.2.1, .f a.2.2]) (fun a => m_is_rule n_ a.1 a.2.1 a.2.2) (fun r => .f r) (fun r => [none, none, none]))
  | 0 => by
    refine T.F_is_rule.ok sc_is_rule (fun vs H Q E h => ?_) (fun cdv A outer s H vs Q E hr h => ?_)
    · obtain ⟨a, G, w, _, _, hl, _⟩ := h; exact hl
    · obtain ⟨a, G, w, _, _, _, _, nf, _⟩ := h; exact absurd rfl nf
  | n_ + 1 => by
    refine T.F_is_rule.ok sc_is_rule (fun vs H Q E h => ?_) (fun cdv A outer s H vs Q E hr h => ?_)
    · obtain ⟨a, G, w, _, _, hl, _⟩ := h; exact hl
    · refine ⟨_, (pss_cons (ps_if (pw_or (pt_not (pt_val (pe_callB (call_isiK' (Kf := K) (by rfl)) (by rfl) T.n_isinstance PyProof.Rows.boot_isinstance (pa_cons (pv 0) (pa_cons (pe_bltn (v := .ty "tuple") (u := .type "tuple") (by rfl) T.n_tuple (by decide +kernel) rfl) pa_nil))))) (pw_or (pt_cmpR op_ltA (pe_callB (call_lenK (Kf := K) (by rfl)) (by rfl) T.n_len PySem.boot_len (pa_cons (pv 0) pa_nil)) pe_int (nomark _)) (pw_or (pt_not (pt_val (pe_callB (call_isiK' (Kf := K) (by rfl)) (by rfl) T.n_isinstance PyProof.Rows.boot_isinstance (pa_cons (pe_ix (ix_anyK (Kf := K) (by rfl)) (pv 0) pe_int (fun _ _ => rfl)) (pa_cons (pe_bltn (v := .ty "str") (u := .type "str") (by rfl) T.n_str (by decide +kernel) rfl) pa_nil))))) (pw_or1 (pt_cmpR (op_eqM (hu_64 hr)) (pv 2) pe_int (nomark _)))))).pt (pss_one (ps_ret pe_bl)) pss_nil) (pss_cons (ps_if (pt_cmpR (op_eqM (hu_64 hr)) (pe_ix (ix_anyK (Kf := K) (by rfl)) (pv 0) pe_int (fun _ _ => rfl)) pe_str (nomark _)) (pss_one (ps_ret (pe_and (pe_cmpR (op_eqM (hu_64 hr)) (pe_callB (call_lenK (Kf := K) (by rfl)) (by rfl) T.n_len PySem.boot_len (pa_cons (pv 0) pa_nil)) pe_int (nomark _)) (pe_and (pe_callB (call_isiK' (Kf := K) (by rfl)) (by rfl) T.n_isinstance PyProof.Rows.boot_isinstance (pa_cons (pe_ix (ix_anyK (Kf := K) (by rfl)) (pv 0) pe_int (fun _ _ => rfl)) (pa_cons (pe_bltn (v := .ty "str") (u := .type "str") (by rfl) T.n_str (by decide +kernel) rfl) pa_nil))) (pe_one (pe_cmpR (op_inK (Kf := K) (by rfl)) (pe_ix (ix_anyK (Kf := K) (by rfl)) (pv 0) pe_int (fun _ _ => rfl)) (pv 1) rfl)))))) pss_nil) (pss_cons (ps_if (pt_cmpR (op_eqM (hu_64 hr)) (pe_ix (ix_anyK (Kf := K) (by rfl)) (pv 0) pe_int (fun _ _ => rfl)) pe_str (nomark _)) (pss_one (ps_ret (pe_and (pe_cmpR (op_eqM (hu_64 hr)) (pe_callB (call_lenK (Kf := K) (by rfl)) (by rfl) T.n_len PySem.boot_len (pa_cons (pv 0) pa_nil)) pe_int (nomark _)) (pe_one (pe_call (ok_is_rule T n_) (hr.mono (by omega)) (by rfl) T.g_is_rule T.F_is_rule.kp T.b_is_rule .nil (show Passes CX0 _ E from pass0) (pa_cons (pe_ix (ix_anyK (Kf := K) (by rfl)) (pv 0) pe_int (fun _ _ => rfl)) (pa_cons (pv 1) (pa_cons (pe_op op_sub (pv 2) pe_int) pa_nil)))))))) pss_nil) (pss_cons (ps_if (pt_cmpR (op_inK (Kf := K) (by rfl)) (pe_ix (ix_anyK (Kf := K) (by rfl)) (pv 0) pe_int (fun _ _ => rfl)) (pe_tup (pa_cons pe_str (pa_cons pe_str pa_nil))) rfl) (pss_one (ps_ret (pe_and (pe_cmpR (op_eqM (hu_64 hr)) (pe_callB (call_lenK (Kf := K) (by rfl)) (by rfl) T.n_len PySem.boot_len (pa_cons (pv 0) pa_nil)) pe_int (nomark _)) (pe_and (pe_call (ok_is_rule T n_) (hr.mono (by omega)) (by rfl) T.g_is_rule T.F_is_rule.kp T.b_is_rule .nil (show Passes CX0 _ E from pass0) (pa_cons (pe_ix (ix_anyK (Kf := K) (by rfl)) (pv 0) pe_int (fun _ _ => rfl)) (pa_cons (pv 1) (pa_cons (pe_op op_sub (pv 2) pe_int) pa_nil)))) (pe_one (pe_call (ok_is_rule T n_) (hr.mono (by omega)) (by rfl) T.g_is_rule T.F_is_rule.kp T.b_is_rule .nil (show Passes CX0 _ E from pass0) (pa_cons (pe_ix (ix_anyK (Kf := K) (by rfl)) (pv 0) pe_int (fun _ _ => rfl)) (pa_cons (pv 1) (pa_cons (pe_op op_sub (pv 2) pe_int) pa_nil))))))))) pss_nil) (pss_one (ps_ret pe_bl)))))), ?_⟩
      refine fn_body (K := K) [] (fun _ => by show (3 : Nat) ≤ 3; decide) (fun _ => by show ∀ k ∈ ([] : List Nat), k < 3; decide) h (fun F a hec hE hK hpv => ?_)
      obtain ⟨x_thing, x_names, x_deep⟩ := a
      show RS F [] [some (.f x_thing), some (.f x_names), some (.f x_deep)] (m_is_rule (n_ + 1) x_thing x_names x_deep) _ _ _
      rw [m_is_rule]
      refine rs_seq ?_
      refine rs_if ?_
      refine rt_or (Z := Unit) ?_
      refine rt_not ?_
      refine rt_val ?_
      refine rd_isi .tuple ?_
      refine rd_var rfl ?_
      refine ⟨_, _, rfl, rfl, fun t3 => ?_⟩
      refine ⟨_, _, rfl, rfl, fun t2 => ?_⟩
      refine ⟨fun z => [some (.f x_thing), some (.f x_names), some (.f x_deep)], (), _, _, rfl, ⟨.inr rfl, ⟨.inr rfl, ⟨.inr rfl, trivial⟩⟩⟩, fun _ => ?_, fun p1 => ?_⟩
      · refine rt_or (Z := Unit) ?_
        refine rt_op2B o_lt ?_
        refine rd_cb1 o_len ?_
        refine rd_var rfl ?_
        refine ⟨_, _, rfl, rfl, fun t6 => ?_⟩
        intro _
        refine rd_int ?_
        refine ⟨_, _, _, rfl, rfl, rfl, fun t5 => ?_⟩
        refine ⟨fun z => [some (.f x_thing), some (.f x_names), some (.f x_deep)], (), _, _, rfl, ⟨.inr rfl, ⟨.inr rfl, ⟨.inr rfl, trivial⟩⟩⟩, fun _ => ?_, fun p4 => ?_⟩
        · refine rt_or (Z := Unit) ?_
          refine rt_not ?_
          refine rt_val ?_
          refine rd_isi .str ?_
          refine rd_op2 o_ix ?_
          refine rd_var rfl ?_
          intro _
          refine rd_int ?_
          refine ⟨_, _, _, rfl, rfl, rfl, fun t10 => ?_⟩
          refine ⟨_, _, rfl, rfl, fun t9 => ?_⟩
          refine ⟨_, _, rfl, rfl, fun t8 => ?_⟩
          refine ⟨fun z => [some (.f x_thing), some (.f x_names), some (.f x_deep)], (), _, _, rfl, ⟨.inr rfl, ⟨.inr rfl, ⟨.inr rfl, trivial⟩⟩⟩, fun _ => ?_, fun p7 => ?_⟩
          · refine rt_op2B o_eq ?_
            refine rd_var rfl ?_
            intro _
            refine rd_int ?_
            refine ⟨_, _, _, rfl, rfl, rfl, fun t11 => ?_⟩
            exact ⟨_, rfl, ⟨.inr rfl, ⟨.inr rfl, ⟨.inr rfl, trivial⟩⟩⟩⟩
          · exact ⟨_, rfl, ⟨.inr rfl, ⟨.inr rfl, ⟨.inr rfl, trivial⟩⟩⟩⟩
        · exact ⟨_, rfl, ⟨.inr rfl, ⟨.inr rfl, ⟨.inr rfl, trivial⟩⟩⟩⟩
      · refine ⟨_, _, rfl, fun _ => ?_, fun _ => ?_⟩
        · refine rs_ret ?_
          refine rd_bl ?_
          refine ⟨_, rfl, ?_⟩
          exact ⟨_, rfl, rfl, trivial⟩
        · refine rs_next ?_
          refine rs_at [some (.f x_thing), some (.f x_names), some (.f x_deep)] rfl ?_
          refine rs_seq ?_
          refine rs_if ?_
          refine rt_op2B o_eq ?_
          refine rd_op2 o_ix ?_
          refine rd_var rfl ?_
          intro _
          refine rd_int ?_
          refine ⟨_, _, _, rfl, rfl, rfl, fun t13 => ?_⟩
          intro _
          refine rd_str e_q_wire ?_
          refine ⟨_, _, _, rfl, rfl, rfl, fun t12 => ?_⟩
          refine ⟨_, _, rfl, fun _ => ?_, fun _ => ?_⟩
          · refine rs_ret ?_
            refine rd_andV (Z := Unit) ?_
            refine rd_op2B o_eq ?_
            refine rd_cb1 o_len ?_
            refine rd_var rfl ?_
            refine ⟨_, _, rfl, rfl, fun t17 => ?_⟩
            intro _
            refine rd_int ?_
            refine ⟨_, _, _, rfl, rfl, rfl, fun t16 => ?_⟩
            refine ⟨_, _, rfl, rfl, fun t14 => ⟨fun z => [some (.f x_thing), some (.f x_names), some (.f x_deep)], (), _, _, rfl, ⟨.inr rfl, ⟨.inr rfl, ⟨.inr rfl, trivial⟩⟩⟩, fun _ => ?_, fun p15 => ?_⟩⟩
            · refine rd_andV (Z := Unit) ?_
              refine rd_isi .str ?_
              refine rd_op2 o_ix ?_
              refine rd_var rfl ?_
              intro _
              refine rd_int ?_
              refine ⟨_, _, _, rfl, rfl, rfl, fun t21 => ?_⟩
              refine ⟨_, _, rfl, rfl, fun t20 => ?_⟩
              refine ⟨_, _, rfl, rfl, fun t18 => ⟨fun z => [some (.f x_thing), some (.f x_names), some (.f x_deep)], (), _, _, rfl, ⟨.inr rfl, ⟨.inr rfl, ⟨.inr rfl, trivial⟩⟩⟩, fun _ => ?_, fun p19 => ?_⟩⟩
              · refine rd_op2B o_in ?_
                refine rd_op2 o_ix ?_
                refine rd_var rfl ?_
                intro _
                refine rd_int ?_
                refine ⟨_, _, _, rfl, rfl, rfl, fun t23 => ?_⟩
                intro _
                refine rd_var rfl ?_
                refine ⟨_, _, _, rfl, rfl, rfl, fun t22 => ?_⟩
                exact ⟨_, _, rfl, rfl, ⟨.inr rfl, ⟨.inr rfl, ⟨.inr rfl, trivial⟩⟩⟩⟩
              · exact ⟨_, _, rfl, rfl, ⟨.inr rfl, ⟨.inr rfl, ⟨.inr rfl, trivial⟩⟩⟩⟩
            · refine ⟨_, rfl, ?_⟩
              exact ⟨_, rfl, rfl, trivial⟩
          · refine rs_next ?_
            refine rs_at [some (.f x_thing), some (.f x_names), some (.f x_deep)] rfl ?_
            refine rs_seq ?_
            refine rs_if ?_
            refine rt_op2B o_eq ?_
            refine rd_op2 o_ix ?_
            refine rd_var rfl ?_
            intro _
            refine rd_int ?_
            refine ⟨_, _, _, rfl, rfl, rfl, fun t25 => ?_⟩
            intro _
            refine rd_str e_q_not ?_
            refine ⟨_, _, _, rfl, rfl, rfl, fun t24 => ?_⟩
            refine ⟨_, _, rfl, fun _ => ?_, fun _ => ?_⟩
            · refine rs_ret ?_
              refine rd_andV (Z := Unit) ?_
              refine rd_op2B o_eq ?_
              refine rd_cb1 o_len ?_
              refine rd_var rfl ?_
              refine ⟨_, _, rfl, rfl, fun t29 => ?_⟩
              intro _
              refine rd_int ?_
              refine ⟨_, _, _, rfl, rfl, rfl, fun t28 => ?_⟩
              refine ⟨_, _, rfl, rfl, fun t26 => ⟨fun z => [some (.f x_thing), some (.f x_names), some (.f x_deep)], (), _, _, rfl, ⟨.inr rfl, ⟨.inr rfl, ⟨.inr rfl, trivial⟩⟩⟩, fun _ => ?_, fun p27 => ?_⟩⟩
              · refine rd_call hec hE ?_
                refine ra_cons ?_
                refine rd_op2 o_ix ?_
                refine rd_var rfl ?_
                intro _
                refine rd_int ?_
                refine ⟨_, _, _, rfl, rfl, rfl, fun t31 => ?_⟩
                intro _
                refine ra_cons ?_
                refine rd_var rfl ?_
                intro _
                refine ra_cons ?_
                refine rd_op2 o_sub ?_
                refine rd_var rfl ?_
                intro _
                refine rd_int ?_
                refine ⟨_, _, _, rfl, rfl, rfl, fun t32 => ?_⟩
                intro _
                refine ra_nil ?_
                refine ⟨(t31, x_names, t32), _, rfl, rfl, rfl, fun r30 => ?_⟩
                exact ⟨_, _, rfl, rfl, ⟨.inr rfl, ⟨.inr rfl, ⟨.inr rfl, trivial⟩⟩⟩⟩
              · refine ⟨_, rfl, ?_⟩
                exact ⟨_, rfl, rfl, trivial⟩
            · refine rs_next ?_
              refine rs_at [some (.f x_thing), some (.f x_names), some (.f x_deep)] rfl ?_
              refine rs_seq ?_
              refine rs_if ?_
              refine rt_op2B o_in ?_
              refine rd_op2 o_ix ?_
              refine rd_var rfl ?_
              intro _
              refine rd_int ?_
              refine ⟨_, _, _, rfl, rfl, rfl, fun t34 => ?_⟩
              intro _
              refine rd_tup ?_
              refine ra_cons ?_
              refine rd_str e_q_and ?_
              intro _
              refine ra_cons ?_
              refine rd_str e_q_or ?_
              intro _
              refine ra_nil ?_
              refine ⟨[(.str q_and), (.str q_or)], rfl, (by show (2 : Nat) ≤ 1000; decide), ?_⟩
              refine ⟨_, _, _, rfl, rfl, rfl, fun t33 => ?_⟩
              refine ⟨_, _, rfl, fun _ => ?_, fun _ => ?_⟩
              · refine rs_ret ?_
                refine rd_andV (Z := Unit) ?_
                refine rd_op2B o_eq ?_
                refine rd_cb1 o_len ?_
                refine rd_var rfl ?_
                refine ⟨_, _, rfl, rfl, fun t38 => ?_⟩
                intro _
                refine rd_int ?_
                refine ⟨_, _, _, rfl, rfl, rfl, fun t37 => ?_⟩
                refine ⟨_, _, rfl, rfl, fun t35 => ⟨fun z => [some (.f x_thing), some (.f x_names), some (.f x_deep)], (), _, _, rfl, ⟨.inr rfl, ⟨.inr rfl, ⟨.inr rfl, trivial⟩⟩⟩, fun _ => ?_, fun p36 => ?_⟩⟩
                · refine rd_andV (Z := Unit) ?_
                  refine rd_call hec hE ?_
                  refine ra_cons ?_
                  refine rd_op2 o_ix ?_
                  refine rd_var rfl ?_
                  intro _
                  refine rd_int ?_
                  refine ⟨_, _, _, rfl, rfl, rfl, fun t42 => ?_⟩
                  intro _
                  refine ra_cons ?_
                  refine rd_var rfl ?_
                  intro _
                  refine ra_cons ?_
                  refine rd_op2 o_sub ?_
                  refine rd_var rfl ?_
                  intro _
                  refine rd_int ?_
                  refine ⟨_, _, _, rfl, rfl, rfl, fun t43 => ?_⟩
                  intro _
                  refine ra_nil ?_
                  refine ⟨(t42, x_names, t43), _, rfl, rfl, rfl, fun r41 => ?_⟩
                  refine ⟨_, _, rfl, rfl, fun t39 => ⟨fun z => [some (.f x_thing), some (.f x_names), some (.f x_deep)], (), _, _, rfl, ⟨.inr rfl, ⟨.inr rfl, ⟨.inr rfl, trivial⟩⟩⟩, fun _ => ?_, fun p40 => ?_⟩⟩
                  · refine rd_call hec hE ?_
                    refine ra_cons ?_
                    refine rd_op2 o_ix ?_
                    refine rd_var rfl ?_
                    intro _
                    refine rd_int ?_
                    refine ⟨_, _, _, rfl, rfl, rfl, fun t45 => ?_⟩
                    intro _
                    refine ra_cons ?_
                    refine rd_var rfl ?_
                    intro _
                    refine ra_cons ?_
                    refine rd_op2 o_sub ?_
                    refine rd_var rfl ?_
                    intro _
                    refine rd_int ?_
                    refine ⟨_, _, _, rfl, rfl, rfl, fun t46 => ?_⟩
                    intro _
                    refine ra_nil ?_
                    refine ⟨(t45, x_names, t46), _, rfl, rfl, rfl, fun r44 => ?_⟩
                    exact ⟨_, _, rfl, rfl, ⟨.inr rfl, ⟨.inr rfl, ⟨.inr rfl, trivial⟩⟩⟩⟩
                  · exact ⟨_, _, rfl, rfl, ⟨.inr rfl, ⟨.inr rfl, ⟨.inr rfl, trivial⟩⟩⟩⟩
                · refine ⟨_, rfl, ?_⟩
                  exact ⟨_, rfl, rfl, trivial⟩
              · refine rs_next ?_
                refine rs_at [some (.f x_thing), some (.f x_names), some (.f x_deep)] rfl ?_
                refine rs_ret ?_
                refine rd_bl ?_
                refine ⟨_, rfl, ?_⟩
                exact ⟨_, rfl, rfl, trivial⟩
theorem ok_is_name (T : Tx K mg) : FnOk P w K mg base CX0 1 T.a_is_name T.d_is_name ["thing"] (spOf (A := D) (R := D) EC.ec (fun a => [.f a]) (fun a => m_is_name a) (fun r => .f r) (fun r => [none])) := by
  refine T.F_is_name.ok sc_is_name (fun vs H Q E h => ?_) (fun cdv A outer s H vs Q E hr h => ?_)
  · obtain ⟨a, G, w, _, _, hl, _⟩ := h; exact hl
  · refine ⟨_, (pss_cons (ps_if (pw_or (pt_not (pt_val (pe_callB (call_isiK' (Kf := K) (by rfl)) (by rfl) T.n_isinstance PyProof.Rows.boot_isinstance (pa_cons (pv 0) (pa_cons (pe_bltn (v := .ty "str") (u := .type "str") (by rfl) T.n_str (by decide +kernel) rfl) pa_nil))))) (pw_or1 (pt_not (pt_chain op_le op_le pe_int (pe_callB (call_lenK (Kf := K) (by rfl)) (by rfl) T.n_len PySem.boot_len (pa_cons (pv 0) pa_nil)) (pe_glob (v := .int 8) (by rfl) T.cg_LONGEST_NAME ⟨_, rfl⟩))))).pt (pss_one (ps_ret pe_bl)) pss_nil) (pss_one (ps_ret (pe_cmpR (op_eqN (hu_64 hr)) (pe_lc (own := [("sign", 1)]) rfl (by exact sc_is_name.nd) (pi_str (pv 0)) blk_is_name_0 (fun _ _ _ _ _ => (pg_name (i := 1) sc_is_name.nd rfl (by first | exact .inl rfl | exact .inr rfl))) (fun _ _ _ _ _ => (pts_one (pt_cmpR (op_notInK (Kf := K) (by rfl)) (pv 1) (pe_glob (v := .str (PySem.Str.ofString "abcdefghijklmnopqrstuvwxyz")) (by rfl) T.cg_SMALL_LETTERS ⟨_, rfl⟩) rfl))) (fun _ _ _ _ _ => (pv 1))) (pe_lst pa_nil) (nomark _))))), ?_⟩
    refine fn_body (K := K) [] (fun _ => by show (1 : Nat) ≤ 2; decide) (fun _ => by show ∀ k ∈ ([] : List Nat), k < 1; decide) h (fun F x_thing hec hE hK hpv => ?_)
    skip
    show RS F [] [some (.f x_thing), none] (m_is_name x_thing) _ _ _
    unfold m_is_name
    refine rs_seq ?_
    refine rs_if ?_
    refine rt_or (Z := Unit) ?_
    refine rt_not ?_
    refine rt_val ?_
    refine rd_isi .str ?_
    refine rd_var rfl ?_
    refine ⟨_, _, rfl, rfl, fun t3 => ?_⟩
    refine ⟨_, _, rfl, rfl, fun t2 => ?_⟩
    refine ⟨fun z => [some (.f x_thing), none], (), _, _, rfl, ⟨.inr rfl, ⟨.inl rfl, trivial⟩⟩, fun _ => ?_, fun p1 => ?_⟩
    · refine rt_not ?_
      refine rt_chain o_le o_le ?_
      refine rd_int ?_
      intro _
      refine rd_cb1 o_len ?_
      refine rd_var rfl ?_
      refine ⟨_, _, rfl, rfl, fun t7 => ?_⟩
      refine ⟨_, _, _, rfl, rfl, rfl, fun t4 => ⟨_, _, rfl, fun _ _ => ?_, fun c5 => ?_⟩⟩
      · refine rd_int ?_
        exact ⟨_, _, rfl, rfl, rfl, ⟨.inr rfl, ⟨.inl rfl, trivial⟩⟩⟩
      · exact ⟨_, rfl, ⟨.inr rfl, ⟨.inl rfl, trivial⟩⟩⟩
    · refine ⟨_, _, rfl, fun _ => ?_, fun _ => ?_⟩
      · refine rs_ret ?_
        refine rd_bl ?_
        refine ⟨_, rfl, ?_⟩
        exact ⟨_, rfl, rfl, trivial⟩
      · refine rs_next ?_
        refine rs_at [some (.f x_thing), none] rfl ?_
        refine rs_ret ?_
        refine rd_op2B o_eqN ?_
        refine rd_lcR [1] (fun i hi => hi) (all1 (hpv _ (by decide))) ?_
        refine ri_str ?_
        refine rd_var rfl ?_
        refine ⟨_, _, rfl, rfl, fun ds11 => ?_⟩
        refine ⟨[some (.f x_thing), none], _, _, rfl, ⟨.inr rfl, ⟨.inl rfl, trivial⟩⟩, (by first | exact trivial | rfl | exact ⟨rfl, rfl⟩), (all1 rfl), rfl, fun d9 _ _ => ?_, fun ys10 => ?_⟩
        · refine rg_name (by show (1 : Nat) < 2; decide) rfl (hpv _ (by decide)) ?_
          refine rt_op2B o_notIn ?_
          refine rd_var rfl ?_
          intro _
          refine rd_str e_q_abcdefghijklmnopqrstuvwxyz ?_
          refine ⟨_, _, _, rfl, rfl, rfl, fun t12 => ?_⟩
          refine ⟨_, _, rfl, fun _ => ?_, fun _ => ⟨rfl, ⟨.inr rfl, ⟨.inl rfl, trivial⟩⟩⟩⟩
          refine rd_var rfl ?_
          exact ⟨_, rfl, rfl, ⟨.inr rfl, ⟨.inl rfl, trivial⟩⟩⟩
        · intro _
          refine rd_lst ?_
          refine ra_nil ?_
          refine ⟨[], rfl, (by show (0 : Nat) ≤ 1000; decide), ?_⟩
          refine ⟨_, _, _, rfl, rfl, rfl, fun t8 => ?_⟩
          refine ⟨_, rfl, ?_⟩
          exact ⟨_, rfl, rfl, trivial⟩
theorem ok_is_gate (T : Tx K mg) : FnOk P w K mg base CX0 2 T.a_is_gate T.d_is_gate ["thing"] (spOf (A := D) (R := D) EC.ec (fun a => [.f a]) (fun a => m_is_gate a) (fun r => .f r) (fun r => [none])) := by
  refine T.F_is_gate.ok sc_is_gate (fun vs H Q E h => ?_) (fun cdv A outer s H vs Q E hr h => ?_)
  · obtain ⟨a, G, w, _, _, hl, _⟩ := h; exact hl
  · refine ⟨_, (pss_one (ps_ret (pe_and (pe_callB (call_isiK' (Kf := K) (by rfl)) (by rfl) T.n_isinstance PyProof.Rows.boot_isinstance (pa_cons (pv 0) (pa_cons (pe_bltn (v := .ty "tuple") (u := .type "tuple") (by rfl) T.n_tuple (by decide +kernel) rfl) pa_nil))) (pe_and (pe_cmpR (op_eqM (hu_64 hr)) (pe_callB (call_lenK (Kf := K) (by rfl)) (by rfl) T.n_len PySem.boot_len (pa_cons (pv 0) pa_nil)) pe_int (nomark _)) (pe_one (pe_call (ok_is_name T) (hr.mono (by decide)) (by rfl) T.g_is_name T.F_is_name.kp T.b_is_name .nil (show Passes CX0 _ E from pass0) (pa_cons (pe_ix (ix_anyK (Kf := K) (by rfl)) (pv 0) pe_int (fun _ _ => rfl)) pa_nil))))))), ?_⟩
    refine fn_body (K := K) [] (fun _ => by show (1 : Nat) ≤ 1; decide) (fun _ => by show ∀ k ∈ ([] : List Nat), k < 1; decide) h (fun F x_thing hec hE hK hpv => ?_)
    skip
    show RS F [] [some (.f x_thing)] (m_is_gate x_thing) _ _ _
    unfold m_is_gate
    refine rs_ret ?_
    refine rd_andV (Z := Unit) ?_
    refine rd_isi .tuple ?_
    refine rd_var rfl ?_
    refine ⟨_, _, rfl, rfl, fun t3 => ?_⟩
    refine ⟨_, _, rfl, rfl, fun t1 => ⟨fun z => [some (.f x_thing)], (), _, _, rfl, ⟨.inr rfl, trivial⟩, fun _ => ?_, fun p2 => ?_⟩⟩
    · refine rd_andV (Z := Unit) ?_
      refine rd_op2B o_eq ?_
      refine rd_cb1 o_len ?_
      refine rd_var rfl ?_
      refine ⟨_, _, rfl, rfl, fun t7 => ?_⟩
      intro _
      refine rd_int ?_
      refine ⟨_, _, _, rfl, rfl, rfl, fun t6 => ?_⟩
      refine ⟨_, _, rfl, rfl, fun t4 => ⟨fun z => [some (.f x_thing)], (), _, _, rfl, ⟨.inr rfl, trivial⟩, fun _ => ?_, fun p5 => ?_⟩⟩
      · refine rd_call hec hE ?_
        refine ra_cons ?_
        refine rd_op2 o_ix ?_
        refine rd_var rfl ?_
        intro _
        refine rd_int ?_
        refine ⟨_, _, _, rfl, rfl, rfl, fun t9 => ?_⟩
        intro _
        refine ra_nil ?_
        refine ⟨(t9), _, rfl, rfl, rfl, fun r8 => ?_⟩
        exact ⟨_, _, rfl, rfl, ⟨.inr rfl, trivial⟩⟩
      · exact ⟨_, _, rfl, rfl, ⟨.inr rfl, trivial⟩⟩
    · refine ⟨_, rfl, ?_⟩
      exact ⟨_, rfl, rfl, trivial⟩
theorem ok_is_net (T : Tx K mg) : FnOk P w K mg base CX0 26 T.a_is_net T.d_is_net ["thing"] (spOf (A := D) (R := D) EC.ec (fun a => [.f a]) (fun a => m_is_net a) (fun r => .f r) (fun r => [none])) := by
  refine T.F_is_net.ok sc_is_net (fun vs H Q E h => ?_) (fun cdv A outer s H vs Q E hr h => ?_)
  · obtain ⟨a, G, w, _, _, hl, _⟩ := h; exact hl
  · refine ⟨_, (pss_cons (ps_if (pw_or (pt_not (pt_val (pe_callB (call_isiK' (Kf := K) (by rfl)) (by rfl) T.n_isinstance PyProof.Rows.boot_isinstance (pa_cons (pv 0) (pa_cons (pe_bltn (v := .ty "tuple") (u := .type "tuple") (by rfl) T.n_tuple (by decide +kernel) rfl) pa_nil))))) (pw_or1 (pt_cmpR (op_neM (hu_64 hr)) (pe_callB (call_lenK (Kf := K) (by rfl)) (by rfl) T.n_len PySem.boot_len (pa_cons (pv 0) pa_nil)) pe_int (nomark _)))).pt (pss_one (ps_ret pe_bl)) pss_nil) (pss_cons (ps_asg (pv 0) (pg_tupK (Kf := K) (n := 2) (by rfl) rfl (pgs_cons (pg_name (i := 2) sc_is_net.nd rfl (by first | exact .inl rfl | exact .inr rfl)) (pgs_cons (pg_name (i := 3) sc_is_net.nd rfl (by first | exact .inl rfl | exact .inr rfl)) pgs_nil)))) (pss_cons (ps_if (pw_or (pt_not (pt_val (pe_callB (call_isiK' (Kf := K) (by rfl)) (by rfl) T.n_isinstance PyProof.Rows.boot_isinstance (pa_cons (pv 2) (pa_cons (pe_bltn (v := .ty "list") (u := .type "list") (by rfl) T.n_list (by decide +kernel) rfl) pa_nil))))) (pw_or1 (pt_not (pt_val (pe_callB (call_isiK' (Kf := K) (by rfl)) (by rfl) T.n_isinstance PyProof.Rows.boot_isinstance (pa_cons (pv 3) (pa_cons (pe_bltn (v := .ty "list") (u := .type "list") (by rfl) T.n_list (by decide +kernel) rfl) pa_nil))))))).pt (pss_one (ps_ret pe_bl)) pss_nil) (pss_cons (ps_if (pw_or (pt_cmpR op_gt (pe_callB (call_lenK (Kf := K) (by rfl)) (by rfl) T.n_len PySem.boot_len (pa_cons (pv 2) pa_nil)) (pe_glob (v := .int 4) (by rfl) T.cg_MOST_INPUTS ⟨_, rfl⟩) (nomark _)) (pw_or1 (pt_not (pt_chain op_le op_le pe_int (pe_callB (call_lenK (Kf := K) (by rfl)) (by rfl) T.n_len PySem.boot_len (pa_cons (pv 3) pa_nil)) (pe_glob (v := .int 7) (by rfl) T.cg_MOST_GATES ⟨_, rfl⟩))))).pt (pss_one (ps_ret pe_bl)) pss_nil) (pss_cons (ps_if (pw_or (pt_cmpR (op_neN (hu_64 hr)) (pe_lc (own := [("one", 4)]) rfl (by exact sc_is_net.nd) (pi_listK (Kf := K) (by rfl) (pv 2)) blk_is_net_2 (fun _ _ _ _ _ => (pg_name (i := 4) sc_is_net.nd rfl (by first | exact .inl rfl | exact .inr rfl))) (fun _ _ _ _ _ => (pts_one (pt_not (pt_val (pe_call (ok_is_name T) (hr.mono (by decide)) (by rfl) T.g_is_name T.F_is_name.kp T.b_is_name .nil (show Passes CX0 _ E from pass0) (pa_cons (pv 4) pa_nil)))))) (fun _ _ _ _ _ => (pv 4))) (pe_lst pa_nil) (nomark _)) (pw_or1 (pt_cmpR (op_neN (hu_64 hr)) (pe_lc (own := [("one", 4)]) rfl (by exact sc_is_net.nd) (pi_listK (Kf := K) (by rfl) (pv 3)) blk_is_net_1 (fun _ _ _ _ _ => (pg_name (i := 4) sc_is_net.nd rfl (by first | exact .inl rfl | exact .inr rfl))) (fun _ _ _ _ _ => (pts_one (pt_not (pt_val (pe_call (ok_is_gate T) (hr.mono (by decide)) (by rfl) T.g_is_gate T.F_is_gate.kp T.b_is_gate .nil (show Passes CX0 _ E from pass0) (pa_cons (pv 4) pa_nil)))))) (fun _ _ _ _ _ => (pv 4))) (pe_lst pa_nil) (nomark _)))).pt (pss_one (ps_ret pe_bl)) pss_nil) (pss_cons (ps_set (i := 1) sc_is_net.nd rfl (by first | exact .inl rfl | exact .inr rfl) (pe_call (ok_wires_of T) (hr.mono (by decide)) (by rfl) T.g_wires_of T.F_wires_of.kp T.b_wires_of .nil (show Passes CX0 _ E from pass0) (pa_cons (pv 0) pa_nil))) (pss_cons (ps_if (pt_cmpR op_ltA (pe_lenSetN (Kf := K) (by rfl) (by rfl) (by rfl) T.n_len (by rfl) T.n_set (pv 1)) (pe_callB (call_lenK (Kf := K) (by rfl)) (by rfl) T.n_len PySem.boot_len (pa_cons (pv 1) pa_nil)) (nomark _)) (pss_one (ps_ret pe_bl)) pss_nil) (pss_one (ps_ret (pe_cmpR (op_eqN (hu_64 hr)) (pe_lc (own := [("name", 5), ("rule", 6)]) rfl (by exact sc_is_net.nd) (pi_listK (Kf := K) (by rfl) (pv 3)) blk_is_net_0 (fun _ _ _ _ _ => (pg_tupK (Kf := K) (n := 2) (by rfl) rfl (pgs_cons (pg_name (i := 5) sc_is_net.nd rfl (by first | exact .inl rfl | exact .inr rfl)) (pgs_cons (pg_name (i := 6) sc_is_net.nd rfl (by first | exact .inl rfl | exact .inr rfl)) pgs_nil)))) (fun _ _ _ _ _ => (pts_one (pt_not (pt_val (pe_call (ok_is_rule T 24) (hr.mono (by decide)) (by rfl) T.g_is_rule T.F_is_rule.kp T.b_is_rule .nil (show Passes CX0 _ E from pass0) (pa_cons (pv 6) (pa_cons (pv 1) (pa_cons (pe_glob (v := .int 10) (by rfl) T.cg_DEEPEST_RULE ⟨_, rfl⟩) pa_nil)))))))) (fun _ _ _ _ _ => (pv 6))) (pe_lst pa_nil) (nomark _))))))))))), ?_⟩
    refine fn_body (K := K) [] (fun _ => by show (1 : Nat) ≤ 7; decide) (fun _ => by show ∀ k ∈ ([] : List Nat), k < 1; decide) h (fun F x_thing hec hE hK hpv => ?_)
    skip
    show RS F [] [some (.f x_thing), none, none, none, none, none, none] (m_is_net x_thing) _ _ _
    unfold m_is_net
    refine rs_seq ?_
    refine rs_if ?_
    refine rt_or (Z := Unit) ?_
    refine rt_not ?_
    refine rt_val ?_
    refine rd_isi .tuple ?_
    refine rd_var rfl ?_
    refine ⟨_, _, rfl, rfl, fun t3 => ?_⟩
    refine ⟨_, _, rfl, rfl, fun t2 => ?_⟩
    refine ⟨fun z => [some (.f x_thing), none, none, none, none, none, none], (), _, _, rfl, ⟨.inr rfl, ⟨.inl rfl, ⟨.inl rfl, ⟨.inl rfl, ⟨.inl rfl, ⟨.inl rfl, ⟨.inl rfl, trivial⟩⟩⟩⟩⟩⟩⟩, fun _ => ?_, fun p1 => ?_⟩
    · refine rt_op2B o_ne ?_
      refine rd_cb1 o_len ?_
      refine rd_var rfl ?_
      refine ⟨_, _, rfl, rfl, fun t5 => ?_⟩
      intro _
      refine rd_int ?_
      refine ⟨_, _, _, rfl, rfl, rfl, fun t4 => ?_⟩
      exact ⟨_, rfl, ⟨.inr rfl, ⟨.inl rfl, ⟨.inl rfl, ⟨.inl rfl, ⟨.inl rfl, ⟨.inl rfl, ⟨.inl rfl, trivial⟩⟩⟩⟩⟩⟩⟩⟩
    · refine ⟨_, _, rfl, fun _ => ?_, fun _ => ?_⟩
      · refine rs_ret ?_
        refine rd_bl ?_
        refine ⟨_, rfl, ?_⟩
        exact ⟨_, rfl, rfl, trivial⟩
      · refine rs_next ?_
        refine rs_at [some (.f x_thing), none, none, none, none, none, none] rfl ?_
        refine rs_seq ?_
        refine rs_asgG [2, 3] ?_
        refine rd_var rfl ?_
        refine ⟨_, rfl, ?_⟩
        refine rg_n2 ⟨_, rfl, fun p6 => ?_⟩
        refine rgs_cons (by show (2 : Nat) < 7; decide) rfl (hpv _ (by decide)) ?_
        refine rgs_cons (by show (3 : Nat) < 7; decide) rfl (hpv _ (by decide)) ?_
        refine rgs_nil ?_
        refine rs_at [some (.f x_thing), none, some (.f p6.1), some (.f p6.2), none, none, none] rfl ?_
        refine rs_seq ?_
        refine rs_if ?_
        refine rt_or (Z := Unit) ?_
        refine rt_not ?_
        refine rt_val ?_
        refine rd_isi .list ?_
        refine rd_var rfl ?_
        refine ⟨_, _, rfl, rfl, fun t9 => ?_⟩
        refine ⟨_, _, rfl, rfl, fun t8 => ?_⟩
        refine ⟨fun z => [some (.f x_thing), none, some (.f p6.1), some (.f p6.2), none, none, none], (), _, _, rfl, ⟨.inr rfl, ⟨.inl rfl, ⟨.inr rfl, ⟨.inr rfl, ⟨.inl rfl, ⟨.inl rfl, ⟨.inl rfl, trivial⟩⟩⟩⟩⟩⟩⟩, fun _ => ?_, fun p7 => ?_⟩
        · refine rt_not ?_
          refine rt_val ?_
          refine rd_isi .list ?_
          refine rd_var rfl ?_
          refine ⟨_, _, rfl, rfl, fun t11 => ?_⟩
          refine ⟨_, _, rfl, rfl, fun t10 => ?_⟩
          exact ⟨_, rfl, ⟨.inr rfl, ⟨.inl rfl, ⟨.inr rfl, ⟨.inr rfl, ⟨.inl rfl, ⟨.inl rfl, ⟨.inl rfl, trivial⟩⟩⟩⟩⟩⟩⟩⟩
        · refine ⟨_, _, rfl, fun _ => ?_, fun _ => ?_⟩
          · refine rs_ret ?_
            refine rd_bl ?_
            refine ⟨_, rfl, ?_⟩
            exact ⟨_, rfl, rfl, trivial⟩
          · refine rs_next ?_
            refine rs_at [some (.f x_thing), none, some (.f p6.1), some (.f p6.2), none, none, none] rfl ?_
            refine rs_seq ?_
            refine rs_if ?_
            refine rt_or (Z := Unit) ?_
            refine rt_op2B o_gt ?_
            refine rd_cb1 o_len ?_
            refine rd_var rfl ?_
            refine ⟨_, _, rfl, rfl, fun t14 => ?_⟩
            intro _
            refine rd_int ?_
            refine ⟨_, _, _, rfl, rfl, rfl, fun t13 => ?_⟩
            refine ⟨fun z => [some (.f x_thing), none, some (.f p6.1), some (.f p6.2), none, none, none], (), _, _, rfl, ⟨.inr rfl, ⟨.inl rfl, ⟨.inr rfl, ⟨.inr rfl, ⟨.inl rfl, ⟨.inl rfl, ⟨.inl rfl, trivial⟩⟩⟩⟩⟩⟩⟩, fun _ => ?_, fun p12 => ?_⟩
            · refine rt_not ?_
              refine rt_chain o_le o_le ?_
              refine rd_int ?_
              intro _
              refine rd_cb1 o_len ?_
              refine rd_var rfl ?_
              refine ⟨_, _, rfl, rfl, fun t18 => ?_⟩
              refine ⟨_, _, _, rfl, rfl, rfl, fun t15 => ⟨_, _, rfl, fun _ _ => ?_, fun c16 => ?_⟩⟩
              · refine rd_int ?_
                exact ⟨_, _, rfl, rfl, rfl, ⟨.inr rfl, ⟨.inl rfl, ⟨.inr rfl, ⟨.inr rfl, ⟨.inl rfl, ⟨.inl rfl, ⟨.inl rfl, trivial⟩⟩⟩⟩⟩⟩⟩⟩
              · exact ⟨_, rfl, ⟨.inr rfl, ⟨.inl rfl, ⟨.inr rfl, ⟨.inr rfl, ⟨.inl rfl, ⟨.inl rfl, ⟨.inl rfl, trivial⟩⟩⟩⟩⟩⟩⟩⟩
            · refine ⟨_, _, rfl, fun _ => ?_, fun _ => ?_⟩
              · refine rs_ret ?_
                refine rd_bl ?_
                refine ⟨_, rfl, ?_⟩
                exact ⟨_, rfl, rfl, trivial⟩
              · refine rs_next ?_
                refine rs_at [some (.f x_thing), none, some (.f p6.1), some (.f p6.2), none, none, none] rfl ?_
                refine rs_seq ?_
                refine rs_if ?_
                refine rt_or (Z := Unit) ?_
                refine rt_op2B o_neN ?_
                refine rd_lcR [4] (fun i hi => hi) (all1 (hpv _ (by decide))) ?_
                refine ri_lst ?_
                refine rd_var rfl ?_
                refine ⟨_, _, rfl, rfl, fun ds23 _ => ?_⟩
                refine ⟨[some (.f x_thing), none, some (.f p6.1), some (.f p6.2), none, none, none], _, _, rfl, ⟨.inr rfl, ⟨.inl rfl, ⟨.inr rfl, ⟨.inr rfl, ⟨.inl rfl, ⟨.inl rfl, ⟨.inl rfl, trivial⟩⟩⟩⟩⟩⟩⟩, (by first | exact trivial | rfl | exact ⟨rfl, rfl⟩), (all1 rfl), rfl, fun d21 _ _ => ?_, fun ys22 => ?_⟩
                · refine rg_name (by show (4 : Nat) < 7; decide) rfl (hpv _ (by decide)) ?_
                  refine rt_not ?_
                  refine rt_val ?_
                  refine rd_call hec hE ?_
                  refine ra_cons ?_
                  refine rd_var rfl ?_
                  intro _
                  refine ra_nil ?_
                  refine ⟨(d21), _, rfl, rfl, rfl, fun r25 => ?_⟩
                  refine ⟨_, _, rfl, rfl, fun t24 => ?_⟩
                  refine ⟨_, _, rfl, fun _ => ?_, fun _ => ⟨rfl, ⟨.inr rfl, ⟨.inl rfl, ⟨.inr rfl, ⟨.inr rfl, ⟨.inl rfl, ⟨.inl rfl, ⟨.inl rfl, trivial⟩⟩⟩⟩⟩⟩⟩⟩⟩
                  refine rd_var rfl ?_
                  exact ⟨_, rfl, rfl, ⟨.inr rfl, ⟨.inl rfl, ⟨.inr rfl, ⟨.inr rfl, ⟨.inl rfl, ⟨.inl rfl, ⟨.inl rfl, trivial⟩⟩⟩⟩⟩⟩⟩⟩
                · intro _
                  refine rd_lst ?_
                  refine ra_nil ?_
                  refine ⟨[], rfl, (by show (0 : Nat) ≤ 1000; decide), ?_⟩
                  refine ⟨_, _, _, rfl, rfl, rfl, fun t20 => ?_⟩
                  refine ⟨fun z => [some (.f x_thing), none, some (.f p6.1), some (.f p6.2), none, none, none], (), _, _, rfl, ⟨.inr rfl, ⟨.inl rfl, ⟨.inr rfl, ⟨.inr rfl, ⟨.inl rfl, ⟨.inl rfl, ⟨.inl rfl, trivial⟩⟩⟩⟩⟩⟩⟩, fun _ => ?_, fun p19 => ?_⟩
                  · refine rt_op2B o_neN ?_
                    refine rd_lcR [4] (fun i hi => hi) (all1 (hpv _ (by decide))) ?_
                    refine ri_lst ?_
                    refine rd_var rfl ?_
                    refine ⟨_, _, rfl, rfl, fun ds29 _ => ?_⟩
                    refine ⟨[some (.f x_thing), none, some (.f p6.1), some (.f p6.2), none, none, none], _, _, rfl, ⟨.inr rfl, ⟨.inl rfl, ⟨.inr rfl, ⟨.inr rfl, ⟨.inl rfl, ⟨.inl rfl, ⟨.inl rfl, trivial⟩⟩⟩⟩⟩⟩⟩, (by first | exact trivial | rfl | exact ⟨rfl, rfl⟩), (all1 rfl), rfl, fun d27 _ _ => ?_, fun ys28 => ?_⟩
                    · refine rg_name (by show (4 : Nat) < 7; decide) rfl (hpv _ (by decide)) ?_
                      refine rt_not ?_
                      refine rt_val ?_
                      refine rd_call hec hE ?_
                      refine ra_cons ?_
                      refine rd_var rfl ?_
                      intro _
                      refine ra_nil ?_
                      refine ⟨(d27), _, rfl, rfl, rfl, fun r31 => ?_⟩
                      refine ⟨_, _, rfl, rfl, fun t30 => ?_⟩
                      refine ⟨_, _, rfl, fun _ => ?_, fun _ => ⟨rfl, ⟨.inr rfl, ⟨.inl rfl, ⟨.inr rfl, ⟨.inr rfl, ⟨.inl rfl, ⟨.inl rfl, ⟨.inl rfl, trivial⟩⟩⟩⟩⟩⟩⟩⟩⟩
                      refine rd_var rfl ?_
                      exact ⟨_, rfl, rfl, ⟨.inr rfl, ⟨.inl rfl, ⟨.inr rfl, ⟨.inr rfl, ⟨.inl rfl, ⟨.inl rfl, ⟨.inl rfl, trivial⟩⟩⟩⟩⟩⟩⟩⟩
                    · intro _
                      refine rd_lst ?_
                      refine ra_nil ?_
                      refine ⟨[], rfl, (by show (0 : Nat) ≤ 1000; decide), ?_⟩
                      refine ⟨_, _, _, rfl, rfl, rfl, fun t26 => ?_⟩
                      exact ⟨_, rfl, ⟨.inr rfl, ⟨.inl rfl, ⟨.inr rfl, ⟨.inr rfl, ⟨.inl rfl, ⟨.inl rfl, ⟨.inl rfl, trivial⟩⟩⟩⟩⟩⟩⟩⟩
                  · refine ⟨_, _, rfl, fun _ => ?_, fun _ => ?_⟩
                    · refine rs_ret ?_
                      refine rd_bl ?_
                      refine ⟨_, rfl, ?_⟩
                      exact ⟨_, rfl, rfl, trivial⟩
                    · refine rs_next ?_
                      refine rs_at [some (.f x_thing), none, some (.f p6.1), some (.f p6.2), none, none, none] rfl ?_
                      refine rs_seq ?_
                      refine rs_set ?_ rfl (hpv _ (by decide))
                      refine rd_fz ?_
                      refine rd_call hec hE ?_
                      refine ra_cons ?_
                      refine rd_var rfl ?_
                      intro _
                      refine ra_nil ?_
                      refine ⟨(x_thing), _, rfl, rfl, rfl, fun r32 => ?_⟩
                      refine ⟨_, rfl, ?_⟩
                      refine ⟨_, rfl, (by show (1 : Nat) < 7; decide), ?_⟩
                      refine rs_at [some (.f x_thing), some (.f (.lst r32)), some (.f p6.1), some (.f p6.2), none, none, none] rfl ?_
                      refine rs_seq ?_
                      refine rs_if ?_
                      refine rt_op2B o_lt ?_
                      refine rd_lenSet ?_
                      refine rd_var rfl ?_
                      refine ⟨_, _, rfl, rfl, fun t34 => ?_⟩
                      intro _
                      refine rd_cb1 o_len ?_
                      refine rd_var rfl ?_
                      refine ⟨_, _, rfl, rfl, fun t35 => ?_⟩
                      refine ⟨_, _, _, rfl, rfl, rfl, fun t33 => ?_⟩
                      refine ⟨_, _, rfl, fun _ => ?_, fun _ => ?_⟩
                      · refine rs_ret ?_
                        refine rd_bl ?_
                        refine ⟨_, rfl, ?_⟩
                        exact ⟨_, rfl, rfl, trivial⟩
                      · refine rs_next ?_
                        refine rs_at [some (.f x_thing), some (.f (.lst r32)), some (.f p6.1), some (.f p6.2), none, none, none] rfl ?_
                        refine rs_ret ?_
                        refine rd_op2B o_eqN ?_
                        refine rd_lcR [5, 6] (fun i hi => hi) (all2 (hpv _ (by decide)) (hpv _ (by decide))) ?_
                        refine ri_lst ?_
                        refine rd_var rfl ?_
                        refine ⟨_, _, rfl, rfl, fun ds39 _ => ?_⟩
                        refine ⟨[some (.f x_thing), some (.f (.lst r32)), some (.f p6.1), some (.f p6.2), none, none, none], _, _, rfl, ⟨.inr rfl, ⟨.inr rfl, ⟨.inr rfl, ⟨.inr rfl, ⟨.inl rfl, ⟨.inl rfl, ⟨.inl rfl, trivial⟩⟩⟩⟩⟩⟩⟩, (by first | exact trivial | rfl | exact ⟨rfl, rfl⟩), (all2 rfl rfl), rfl, fun d37 _ _ => ?_, fun ys38 => ?_⟩
                        · refine rg_n2 ⟨_, rfl, fun p40 => ?_⟩
                          refine rgs_cons (by show (5 : Nat) < 7; decide) rfl (hpv _ (by decide)) ?_
                          refine rgs_cons (by show (6 : Nat) < 7; decide) rfl (hpv _ (by decide)) ?_
                          refine rgs_nil ?_
                          refine rt_not ?_
                          refine rt_val ?_
                          refine rd_call hec hE ?_
                          refine ra_cons ?_
                          refine rd_var rfl ?_
                          intro _
                          refine ra_cons ?_
                          refine rd_var rfl ?_
                          intro _
                          refine ra_cons ?_
                          refine rd_int ?_
                          intro _
                          refine ra_nil ?_
                          refine ⟨(p40.2, (.lst r32), (.int 10)), _, rfl, rfl, rfl, fun r42 => ?_⟩
                          refine ⟨_, _, rfl, rfl, fun t41 => ?_⟩
                          refine ⟨_, _, rfl, fun _ => ?_, fun _ => ⟨rfl, ⟨.inr rfl, ⟨.inr rfl, ⟨.inr rfl, ⟨.inr rfl, ⟨.inl rfl, ⟨.inl rfl, ⟨.inl rfl, trivial⟩⟩⟩⟩⟩⟩⟩⟩⟩
                          refine rd_var rfl ?_
                          exact ⟨_, rfl, rfl, ⟨.inr rfl, ⟨.inr rfl, ⟨.inr rfl, ⟨.inr rfl, ⟨.inl rfl, ⟨.inl rfl, ⟨.inl rfl, trivial⟩⟩⟩⟩⟩⟩⟩⟩
                        · intro _
                          refine rd_lst ?_
                          refine ra_nil ?_
                          refine ⟨[], rfl, (by show (0 : Nat) ≤ 1000; decide), ?_⟩
                          refine ⟨_, _, _, rfl, rfl, rfl, fun t36 => ?_⟩
                          refine ⟨_, rfl, ?_⟩
                          exact ⟨_, rfl, rfl, trivial⟩
theorem ok__law_right (T : Tx K mg) : FnOk P w K mg base CX0 27 T.a__law_right T.d__law_right ["thing"] (spOf (A := D) (R := D) EC.ec (fun a => [.f a]) (fun a => m__law_right a) (fun r => .f r) (fun r => [none])) := by
  refine T.F__law_right.ok sc__law_right (fun vs H Q E h => ?_) (fun cdv A outer s H vs Q E hr h => ?_)
  · obtain ⟨a, G, w, _, _, hl, _⟩ := h; exact hl
  · refine ⟨_, (pss_cons (ps_set (i := 1) sc__law_right.nd rfl (by first | exact .inl rfl | exact .inr rfl) (pe_call (ok__law_good T) (hr.mono (by decide)) (by rfl) T.g__law_good T.F__law_good.kp T.b__law_good .nil (show Passes CX0 _ E from pass0) (pa_cons (pv 0) pa_nil))) (pss_cons (ps_set (i := 2) sc__law_right.nd rfl (by first | exact .inl rfl | exact .inr rfl) (pe_call (ok__law_deep T 24) (hr.mono (by decide)) (by rfl) T.g__law_deep T.F__law_deep.kp T.b__law_deep .nil (show Passes CX0 _ E from pass0) (pa_cons (pv 0) pa_nil))) (pss_cons (ps_set (i := 3) sc__law_right.nd rfl (by first | exact .inl rfl | exact .inr rfl) (pe_call (ok_is_net T) (hr.mono (by decide)) (by rfl) T.g_is_net T.F_is_net.kp T.b_is_net .nil (show Passes CX0 _ E from pass0) (pa_cons (pv 2) pa_nil))) (pss_one (ps_ret (pe_and (pe_callB (call_isiK' (Kf := K) (by rfl)) (by rfl) T.n_isinstance PyProof.Rows.boot_isinstance (pa_cons (pv 3) (pa_cons (pe_bltn (v := .ty "bool") (u := .type "bool") (by rfl) T.n_bool (by decide +kernel) rfl) pa_nil))) (pe_and (pe_cmpR (op_eqM (hu_64 hr)) (pv 3) (pv 1) (nomark _)) (pe_one (pe_cmpR (op_eqS (hu_64 hr)) (pv 2) (pv 0) (nomark _)))))))))), ?_⟩
    refine fn_body (K := K) [] (fun _ => by show (1 : Nat) ≤ 4; decide) (fun _ => by show ∀ k ∈ ([] : List Nat), k < 1; decide) h (fun F x_thing hec hE hK hpv => ?_)
    skip
    show RS F [] [some (.f x_thing), none, none, none] (m__law_right x_thing) _ _ _
    unfold m__law_right
    refine rs_seq ?_
    refine rs_set ?_ rfl (hpv _ (by decide))
    refine rd_call hec hE ?_
    refine ra_cons ?_
    refine rd_var rfl ?_
    intro _
    refine ra_nil ?_
    refine ⟨(x_thing), _, rfl, rfl, rfl, fun r1 => ?_⟩
    refine ⟨_, rfl, (by show (1 : Nat) < 4; decide), ?_⟩
    refine rs_at [some (.f x_thing), some (.f r1), none, none] rfl ?_
    refine rs_seq ?_
    refine rs_set ?_ rfl (hpv _ (by decide))
    refine rd_call hec hE ?_
    refine ra_cons ?_
    refine rd_var rfl ?_
    intro _
    refine ra_nil ?_
    refine ⟨(x_thing), _, rfl, rfl, rfl, fun r2 => ?_⟩
    refine ⟨_, rfl, (by show (2 : Nat) < 4; decide), ?_⟩
    refine rs_at [some (.f x_thing), some (.f r1), some (.f r2), none] rfl ?_
    refine rs_seq ?_
    refine rs_set ?_ rfl (hpv _ (by decide))
    refine rd_call hec hE ?_
    refine ra_cons ?_
    refine rd_var rfl ?_
    intro _
    refine ra_nil ?_
    refine ⟨(r2), _, rfl, rfl, rfl, fun r3 => ?_⟩
    refine ⟨_, rfl, (by show (3 : Nat) < 4; decide), ?_⟩
    refine rs_at [some (.f x_thing), some (.f r1), some (.f r2), some (.f r3)] rfl ?_
    refine rs_ret ?_
    refine rd_andV (Z := Unit) ?_
    refine rd_isi .bool ?_
    refine rd_var rfl ?_
    refine ⟨_, _, rfl, rfl, fun t6 => ?_⟩
    refine ⟨_, _, rfl, rfl, fun t4 => ⟨fun z => [some (.f x_thing), some (.f r1), some (.f r2), some (.f r3)], (), _, _, rfl, ⟨.inr rfl, ⟨.inr rfl, ⟨.inr rfl, ⟨.inr rfl, trivial⟩⟩⟩⟩, fun _ => ?_, fun p5 => ?_⟩⟩
    · refine rd_andV (Z := Unit) ?_
      refine rd_op2B o_eq ?_
      refine rd_var rfl ?_
      intro _
      refine rd_var rfl ?_
      refine ⟨_, _, _, rfl, rfl, rfl, fun t9 => ?_⟩
      refine ⟨_, _, rfl, rfl, fun t7 => ⟨fun z => [some (.f x_thing), some (.f r1), some (.f r2), some (.f r3)], (), _, _, rfl, ⟨.inr rfl, ⟨.inr rfl, ⟨.inr rfl, ⟨.inr rfl, trivial⟩⟩⟩⟩, fun _ => ?_, fun p8 => ?_⟩⟩
      · refine rd_op2B o_eqS ?_
        refine rd_var rfl ?_
        intro _
        refine rd_var rfl ?_
        refine ⟨_, _, _, rfl, rfl, rfl, fun t10 => ?_⟩
        exact ⟨_, _, rfl, rfl, ⟨.inr rfl, ⟨.inr rfl, ⟨.inr rfl, ⟨.inr rfl, trivial⟩⟩⟩⟩⟩
      · exact ⟨_, _, rfl, rfl, ⟨.inr rfl, ⟨.inr rfl, ⟨.inr rfl, ⟨.inr rfl, trivial⟩⟩⟩⟩⟩
    · refine ⟨_, rfl, ?_⟩
      exact ⟨_, rfl, rfl, trivial⟩
theorem ok__law_deep_rule (T : Tx K mg) : FnOk P w K mg base CX0 1 T.a__law_deep_rule T.d__law_deep_rule ["name", "deep"] (spOf (A := D × D) (R := D) EC.ec (fun a => [.f a.1, .f a.2]) (fun a => m__law_deep_rule a.1 a.2) (fun r => .f r) (fun r => [none, none])) := by
  refine T.F__law_deep_rule.ok sc__law_deep_rule (fun vs H Q E h => ?_) (fun cdv A outer s H vs Q E hr h => ?_)
  · obtain ⟨a, G, w, _, _, hl, _⟩ := h; exact hl
  · refine ⟨_, (pss_cons (ps_set (i := 2) sc__law_deep_rule.nd rfl (by first | exact .inl rfl | exact .inr rfl) (pe_tup (pa_cons pe_str (pa_cons (pv 0) pa_nil)))) (pss_cons (ps_for PassesOwn.never rfl (pi_range1 (by rfl) T.n_range (pa_cons (pe_op op_sub (pv 1) pe_int) pa_nil)) (pg_name (i := 3) sc__law_deep_rule.nd rfl (by first | exact .inl rfl | exact .inr rfl)) (pss_cons (ps_set (i := 4) sc__law_deep_rule.nd rfl (by first | exact .inl rfl | exact .inr rfl) (pe_lst (pa_cons (pe_tup (pa_cons pe_str (pa_cons (pv 2) pa_nil))) (pa_cons (pe_tup (pa_cons pe_str (pa_cons (pe_tup (pa_cons pe_str (pa_cons (pv 0) pa_nil))) (pa_cons (pv 2) pa_nil)))) (pa_cons (pe_tup (pa_cons pe_str (pa_cons (pv 2) (pa_cons (pv 2) pa_nil)))) (pa_cons (pe_tup (pa_cons pe_str (pa_cons (pv 2) (pa_cons (pe_tup (pa_cons pe_str (pa_cons (pv 0) pa_nil))) pa_nil)))) pa_nil)))))) (pss_one (ps_set (i := 2) sc__law_deep_rule.nd rfl (by first | exact .inl rfl | exact .inr rfl) (pe_ix (ix_anyK (Kf := K) (by rfl)) (pv 4) (pe_op op_mod (pe_op op_addA (pv 3) (pv 1)) pe_int) (fun _ _ => rfl)))))) (pss_one (ps_ret (pv 2))))), ?_⟩
    refine fn_body (K := K) [] (fun _ => by show (2 : Nat) ≤ 5; decide) (fun _ => by show ∀ k ∈ ([] : List Nat), k < 2; decide) h (fun F a hec hE hK hpv => ?_)
    obtain ⟨x_name, x_deep⟩ := a
    show RS F [] [some (.f x_name), some (.f x_deep), none, none, none] (m__law_deep_rule x_name x_deep) _ _ _
    unfold m__law_deep_rule
    refine rs_seq ?_
    refine rs_set ?_ rfl (hpv _ (by decide))
    refine rd_tup ?_
    refine ra_cons ?_
    refine rd_str e_q_wire ?_
    intro _
    refine ra_cons ?_
    refine rd_var rfl ?_
    intro _
    refine ra_nil ?_
    refine ⟨[(.str q_wire), x_name], rfl, (by show (2 : Nat) ≤ 1000; decide), ?_⟩
    refine ⟨_, rfl, (by show (2 : Nat) < 5; decide), ?_⟩
    refine rs_at [some (.f x_name), some (.f x_deep), some (.f (.tup [(.str q_wire), x_name])), none, none] rfl ?_
    refine rs_seq ?_
    refine rs_forN (Z := D) [3] ?_
    refine ri_range1 ?_
    refine rd_op2 o_sub ?_
    refine rd_var rfl ?_
    intro _
    refine rd_int ?_
    refine ⟨_, _, _, rfl, rfl, rfl, fun t4 => ?_⟩
    refine ⟨_, _, rfl, rfl, fun ds3 => ?_⟩
    refine ⟨fun z2 => [some (.f x_name), some (.f x_deep), some (.f z2), none, none], _, _, _, rfl, ⟨.inr rfl, ⟨.inr rfl, ⟨.inr rfl, ⟨.inl rfl, ⟨.inl rfl, trivial⟩⟩⟩⟩⟩, fun _ => (by first | exact trivial | rfl | exact ⟨rfl, rfl⟩), fun z2 d1 => ?_, fun z2 => ?_⟩
    · refine rg_name (by show (3 : Nat) < 5; decide) rfl (hpv _ (by decide)) ?_
      refine rs_at [some (.f x_name), some (.f x_deep), some (.f z2), some (.f d1), none] rfl ?_
      refine rs_seq ?_
      refine rs_set ?_ rfl (hpv _ (by decide))
      refine rd_fz ?_
      refine rd_lst ?_
      refine ra_cons ?_
      refine rd_tup ?_
      refine ra_cons ?_
      refine rd_str e_q_not ?_
      intro _
      refine ra_cons ?_
      refine rd_var rfl ?_
      intro _
      refine ra_nil ?_
      refine ⟨[(.str q_not), z2], rfl, (by show (2 : Nat) ≤ 1000; decide), ?_⟩
      intro _
      refine ra_cons ?_
      refine rd_tup ?_
      refine ra_cons ?_
      refine rd_str e_q_and ?_
      intro _
      refine ra_cons ?_
      refine rd_tup ?_
      refine ra_cons ?_
      refine rd_str e_q_wire ?_
      intro _
      refine ra_cons ?_
      refine rd_var rfl ?_
      intro _
      refine ra_nil ?_
      refine ⟨[(.str q_wire), x_name], rfl, (by show (2 : Nat) ≤ 1000; decide), ?_⟩
      intro _
      refine ra_cons ?_
      refine rd_var rfl ?_
      intro _
      refine ra_nil ?_
      refine ⟨[(.str q_and), (.tup [(.str q_wire), x_name]), z2], rfl, (by show (3 : Nat) ≤ 1000; decide), ?_⟩
      intro _
      refine ra_cons ?_
      refine rd_tup ?_
      refine ra_cons ?_
      refine rd_str e_q_or ?_
      intro _
      refine ra_cons ?_
      refine rd_var rfl ?_
      intro _
      refine ra_cons ?_
      refine rd_var rfl ?_
      intro _
      refine ra_nil ?_
      refine ⟨[(.str q_or), z2, z2], rfl, (by show (3 : Nat) ≤ 1000; decide), ?_⟩
      intro _
      refine ra_cons ?_
      refine rd_tup ?_
      refine ra_cons ?_
      refine rd_str e_q_and ?_
      intro _
      refine ra_cons ?_
      refine rd_var rfl ?_
      intro _
      refine ra_cons ?_
      refine rd_tup ?_
      refine ra_cons ?_
      refine rd_str e_q_wire ?_
      intro _
      refine ra_cons ?_
      refine rd_var rfl ?_
      intro _
      refine ra_nil ?_
      refine ⟨[(.str q_wire), x_name], rfl, (by show (2 : Nat) ≤ 1000; decide), ?_⟩
      intro _
      refine ra_nil ?_
      refine ⟨[(.str q_and), z2, (.tup [(.str q_wire), x_name])], rfl, (by show (3 : Nat) ≤ 1000; decide), ?_⟩
      intro _
      refine ra_nil ?_
      refine ⟨[(.tup [(.str q_not), z2]), (.tup [(.str q_and), (.tup [(.str q_wire), x_name]), z2]), (.tup [(.str q_or), z2, z2]), (.tup [(.str q_and), z2, (.tup [(.str q_wire), x_name])])], rfl, (by show (4 : Nat) ≤ 1000; decide), ?_⟩
      refine ⟨_, rfl, ?_⟩
      refine ⟨_, rfl, (by show (4 : Nat) < 5; decide), ?_⟩
      refine rs_at [some (.f x_name), some (.f x_deep), some (.f z2), some (.f d1), some (.f (.lst [(.tup [(.str q_not), z2]), (.tup [(.str q_and), (.tup [(.str q_wire), x_name]), z2]), (.tup [(.str q_or), z2, z2]), (.tup [(.str q_and), z2, (.tup [(.str q_wire), x_name])])]))] rfl ?_
      refine rs_set ?_ rfl (hpv _ (by decide))
      refine rd_op2 o_ix ?_
      refine rd_var rfl ?_
      intro _
      refine rd_op2 o_mod ?_
      refine rd_op2 o_add ?_
      refine rd_var rfl ?_
      intro _
      refine rd_var rfl ?_
      refine ⟨_, _, _, rfl, rfl, rfl, fun t7 => ?_⟩
      intro _
      refine rd_int ?_
      refine ⟨_, _, _, rfl, rfl, rfl, fun t6 => ?_⟩
      refine ⟨_, _, _, rfl, rfl, rfl, fun t5 => ?_⟩
      refine ⟨_, rfl, (by show (2 : Nat) < 5; decide), ?_⟩
      exact ⟨_, rfl, ⟨.inr rfl, ⟨.inr rfl, ⟨.inr rfl, ⟨.inl rfl, ⟨.inl rfl, trivial⟩⟩⟩⟩⟩⟩
    · refine rs_at [some (.f x_name), some (.f x_deep), some (.f z2), none, none] rfl ?_
      refine rs_ret ?_
      refine rd_var rfl ?_
      refine ⟨_, rfl, ?_⟩
      exact ⟨_, rfl, rfl, trivial⟩
theorem ok__law_fitting (T : Tx K mg) : FnOk P w K mg base CX0 2 T.a__law_fitting T.d__law_fitting ["deck"] (spOf (A := ((List (List D) × D))) (R := D × ((List (List D) × D))) EC.ec (fun a => [deckT a]) (fun a => m__law_fitting a) (fun r => .f r.1) (fun r => [some (deckT r.2)])) := by
  refine T.F__law_fitting.ok sc__law_fitting (fun vs H Q E h => ?_) (fun cdv A outer s H vs Q E hr h => ?_)
  · obtain ⟨a, G, w, _, _, hl, _⟩ := h; exact hl
  · refine ⟨_, (pss_cons (ps_set (i := 1) sc__law_fitting.nd rfl (by first | exact .inl rfl | exact .inr rfl) pe_str) (pss_cons (ps_set (i := 2) sc__law_fitting.nd rfl (by first | exact .inl rfl | exact .inr rfl) (pe_call (ok__law_draw T) (hr.mono (by decide)) (by rfl) T.g__law_draw T.F__law_draw.kp T.b__law_draw .nil (show Passes CX0 _ E from pass0) (pa_cons (pv 0) (pa_cons pe_int pa_nil)))) (pss_cons (ps_set (i := 3) sc__law_fitting.nd rfl (by first | exact .inl rfl | exact .inr rfl) (pe_call (ok__law_draw T) (hr.mono (by decide)) (by rfl) T.g__law_draw T.F__law_draw.kp T.b__law_draw .nil (show Passes CX0 _ E from pass0) (pa_cons (pv 0) (pa_cons pe_int pa_nil)))) (pss_cons (ps_setLc (i := 4) (own := [("k", 8)]) rfl sc__law_fitting.nd rfl (by rfl) (by rfl) (pi_range1 (by rfl) T.n_range (pa_cons (pe_op op_addA (pv 2) (pv 3)) pa_nil)) blk__law_fitting_0 (fun _ _ _ _ _ => (pg_name (i := 8) sc__law_fitting.nd rfl (by first | exact .inl rfl | exact .inr rfl))) (fun _ _ _ _ _ => pts_nil) (fun _ _ _ _ _ => (pe_op op_mulS (pe_ix (ix_anyK (Kf := K) (by rfl)) (pv 1) (pv 8) (fun _ _ => rfl)) (pe_ix (ix_anyK (Kf := K) (by rfl)) (pe_lst (pa_cons pe_int (pa_cons pe_int (pa_cons pe_int (pa_cons pe_int pa_nil))))) (pe_op op_fdiv (pe_call (ok__law_draw T) (hr.mono (by decide)) (by rfl) T.g__law_draw T.F__law_draw.kp T.b__law_draw .nil (show Passes CX0 _ E from pass0) (pa_cons (pv 0) (pa_cons pe_int pa_nil))) pe_int) (fun _ _ => rfl))))) (pss_cons (ps_set (i := 5) sc__law_fitting.nd rfl (by first | exact .inl rfl | exact .inr rfl) (pe_lst pa_nil)) (pss_cons (ps_for PassesOwn.never rfl (pi_listK (Kf := K) (by rfl) (pe_slice (sl_listK (Kf := K) (by rfl)) (pv 4) (po_some (pv 2)) po_none)) (pg_name (i := 6) sc__law_fitting.nd rfl (by first | exact .inl rfl | exact .inr rfl)) (pss_cons (ps_set (i := 7) sc__law_fitting.nd rfl (by first | exact .inl rfl | exact .inr rfl) (pe_ix (ix_anyK (Kf := K) (by rfl)) (pv 4) (pe_call (ok__law_draw T) (hr.mono (by decide)) (by rfl) T.g__law_draw T.F__law_draw.kp T.b__law_draw .nil (show Passes CX0 _ E from pass0) (pa_cons (pv 0) (pa_cons (pe_callB (call_lenK (Kf := K) (by rfl)) (by rfl) T.n_len PySem.boot_len (pa_cons (pv 4) pa_nil)) pa_nil))) (fun _ _ => rfl))) (pss_one (ps_expr (pe_bmK (Kf := K) (by rfl) PySem.F.plainAttrs_list PySem.F.slot_list_append PySem.F.type_list_append mt_append (pv 5) (pa_cons (pe_tup (pa_cons (pv 6) (pa_cons (pe_call (ok__law_deep_rule T) (hr.mono (by decide)) (by rfl) T.g__law_deep_rule T.F__law_deep_rule.kp T.b__law_deep_rule .nil (show Passes CX0 _ E from pass0) (pa_cons (pv 7) (pa_cons (pe_ix (ix_anyK (Kf := K) (by rfl)) (pe_lst (pa_cons pe_int (pa_cons pe_int (pa_cons pe_int (pa_cons pe_int (pa_cons pe_int (pa_cons pe_int pa_nil))))))) (pe_op op_fdiv (pe_call (ok__law_draw T) (hr.mono (by decide)) (by rfl) T.g__law_draw T.F__law_draw.kp T.b__law_draw .nil (show Passes CX0 _ E from pass0) (pa_cons (pv 0) (pa_cons pe_int pa_nil))) pe_int) (fun _ _ => rfl)) pa_nil))) pa_nil))) pa_nil)))))) (pss_one (ps_ret (pe_tup (pa_cons (pe_slice (sl_listK (Kf := K) (by rfl)) (pv 4) po_none (po_some (pv 2))) (pa_cons (pv 5) pa_nil))))))))))), ?_⟩
    refine fn_body (K := K) [0] (fun _ => by show (1 : Nat) ≤ 9; decide) (fun _ => by show ∀ k ∈ ([0] : List Nat), k < 1; decide) h (fun F x_deck hec hE hK hpv => ?_)
    skip
    show RS F [] [some (deckT x_deck), none, none, none, none, none, none, none, none] (m__law_fitting x_deck) _ _ _
    unfold m__law_fitting
    refine rs_seq ?_
    refine rs_set ?_ rfl (hpv _ (by decide))
    refine rd_str e_q_abcdefghijklmnopqrstuvwxyz ?_
    refine ⟨_, rfl, (by show (1 : Nat) < 9; decide), ?_⟩
    refine rs_at [some (deckT x_deck), some (.f (.str q_abcdefghijklmnopqrstuvwxyz)), none, none, none, none, none, none, none] rfl ?_
    refine rs_seq ?_
    refine rs_set ?_ rfl (hpv _ (by decide))
    refine rd_call hec hE ?_
    refine ra_cons ?_
    refine rd_ali rfl ?_
    intro _
    refine ra_cons ?_
    refine rd_int ?_
    intro _
    refine ra_nil ?_
    refine ⟨(x_deck, (.int 7)), _, rfl, rfl, rfl, fun r1 => ?_⟩
    refine ⟨_, rfl, (by show (2 : Nat) < 9; decide), ?_⟩
    refine rs_at [some (deckT r1.2), some (.f (.str q_abcdefghijklmnopqrstuvwxyz)), some (.f r1.1), none, none, none, none, none, none] rfl ?_
    refine rs_seq ?_
    refine rs_set ?_ rfl (hpv _ (by decide))
    refine rd_call hec hE ?_
    refine ra_cons ?_
    refine rd_ali rfl ?_
    intro _
    refine ra_cons ?_
    refine rd_int ?_
    intro _
    refine ra_nil ?_
    refine ⟨(r1.2, (.int 10)), _, rfl, rfl, rfl, fun r2 => ?_⟩
    refine ⟨_, rfl, (by show (3 : Nat) < 9; decide), ?_⟩
    refine rs_at [some (deckT r2.2), some (.f (.str q_abcdefghijklmnopqrstuvwxyz)), some (.f r1.1), some (.f r2.1), none, none, none, none, none] rfl ?_
    refine rs_seq ?_
    refine rs_set ?_ rfl (hpv _ (by decide))
    refine rd_fz ?_
    refine rd_lc (Z := ((List (List D) × D))) [8] (fun i hi => hi) (all1 (hpv _ (by decide))) ?_
    refine ri_range1 ?_
    refine rd_op2 o_add ?_
    refine rd_var rfl ?_
    intro _
    refine rd_var rfl ?_
    refine ⟨_, _, _, rfl, rfl, rfl, fun t7 => ?_⟩
    refine ⟨_, _, rfl, rfl, fun ds6 => ?_⟩
    refine ⟨fun z4 => [some (deckT z4), some (.f (.str q_abcdefghijklmnopqrstuvwxyz)), some (.f r1.1), some (.f r2.1), none, none, none, none, none], r2.2, _, _, rfl, ⟨.inr rfl, ⟨.inr rfl, ⟨.inr rfl, ⟨.inr rfl, ⟨.inl rfl, ⟨.inl rfl, ⟨.inl rfl, ⟨.inl rfl, ⟨.inl rfl, trivial⟩⟩⟩⟩⟩⟩⟩⟩⟩, fun _ => (by first | exact trivial | rfl | exact ⟨rfl, rfl⟩), fun _ => (all1 rfl), rfl, fun z4 d3 _ _ => ?_, fun p5 => ?_⟩
    · refine rg_name (by show (8 : Nat) < 9; decide) rfl (hpv _ (by decide)) ?_
      refine rt_true rfl ?_
      refine ⟨_, .ok (none, z4), (if_pos rfl).symm, fun _ => ?_, fun h => by cases h⟩
      refine rd_op2 o_mulS ?_
      refine rd_op2 o_ix ?_
      refine rd_var rfl ?_
      intro _
      refine rd_var rfl ?_
      refine ⟨_, _, _, rfl, rfl, rfl, fun t9 => ?_⟩
      intro _
      refine rd_op2 o_ix ?_
      refine rd_lst ?_
      refine ra_cons ?_
      refine rd_int ?_
      intro _
      refine ra_cons ?_
      refine rd_int ?_
      intro _
      refine ra_cons ?_
      refine rd_int ?_
      intro _
      refine ra_cons ?_
      refine rd_int ?_
      intro _
      refine ra_nil ?_
      refine ⟨[(.int 1), (.int 8), (.int 9), (.int 2)], rfl, (by show (4 : Nat) ≤ 1000; decide), ?_⟩
      intro _
      refine rd_op2 o_fdiv ?_
      refine rd_call hec hE ?_
      refine ra_cons ?_
      refine rd_ali rfl ?_
      intro _
      refine ra_cons ?_
      refine rd_int ?_
      intro _
      refine ra_nil ?_
      refine ⟨(z4, (.int 8)), _, rfl, rfl, rfl, fun r12 => ?_⟩
      intro _
      refine rd_int ?_
      refine ⟨_, _, _, rfl, rfl, rfl, fun t11 => ?_⟩
      refine ⟨_, _, _, rfl, rfl, rfl, fun t10 => ?_⟩
      refine ⟨_, _, _, rfl, rfl, rfl, fun t8 => ?_⟩
      exact ⟨_, _, rfl, rfl, ⟨.inr rfl, ⟨.inr rfl, ⟨.inr rfl, ⟨.inr rfl, ⟨.inl rfl, ⟨.inl rfl, ⟨.inl rfl, ⟨.inl rfl, ⟨.inl rfl, trivial⟩⟩⟩⟩⟩⟩⟩⟩⟩⟩
    · refine ⟨_, rfl, ?_⟩
      refine ⟨_, rfl, (by show (4 : Nat) < 9; decide), ?_⟩
      refine rs_at [some (deckT p5.2), some (.f (.str q_abcdefghijklmnopqrstuvwxyz)), some (.f r1.1), some (.f r2.1), some (.f (.lst p5.1)), none, none, none, none] rfl ?_
      refine rs_seq ?_
      refine rs_set ?_ rfl (hpv _ (by decide))
      refine rd_lst ?_
      refine ra_nil ?_
      refine ⟨[], rfl, (by show (0 : Nat) ≤ 1000; decide), ?_⟩
      refine ⟨_, rfl, (by show (5 : Nat) < 9; decide), ?_⟩
      refine rs_at [some (deckT p5.2), some (.f (.str q_abcdefghijklmnopqrstuvwxyz)), some (.f r1.1), some (.f r2.1), some (.f (.lst p5.1)), some (.l []), none, none, none] rfl ?_
      refine rs_seq ?_
      refine rs_forN (Z := (((List (List D) × D)) × (List D))) [6] ?_
      refine ri_lst ?_
      refine rd_slL ?_
      refine rd_var rfl ?_
      intro _
      refine ro_some ?_
      refine rd_var rfl ?_
      refine ⟨_, _, rfl, rfl, fun t17 => ?_⟩
      refine ro_none ?_
      refine ⟨_, _, rfl, rfl, fun t16 => ?_⟩
      refine ⟨_, _, rfl, rfl, fun ds15 _ => ?_⟩
      refine ⟨fun z14 => [some (deckT z14.1), some (.f (.str q_abcdefghijklmnopqrstuvwxyz)), some (.f r1.1), some (.f r2.1), some (.f (.lst p5.1)), some (.l z14.2), none, none, none], _, _, _, rfl, ⟨.inr rfl, ⟨.inr rfl, ⟨.inr rfl, ⟨.inr rfl, ⟨.inr rfl, ⟨.inr rfl, ⟨.inl rfl, ⟨.inl rfl, ⟨.inl rfl, trivial⟩⟩⟩⟩⟩⟩⟩⟩⟩, fun _ => (by first | exact trivial | rfl | exact ⟨rfl, rfl⟩), fun z14 d13 => ?_, fun z14 => ?_⟩
      · refine rg_name (by show (6 : Nat) < 9; decide) rfl (hpv _ (by decide)) ?_
        refine rs_at [some (deckT z14.1), some (.f (.str q_abcdefghijklmnopqrstuvwxyz)), some (.f r1.1), some (.f r2.1), some (.f (.lst p5.1)), some (.l z14.2), some (.f d13), none, none] rfl ?_
        refine rs_seq ?_
        refine rs_set ?_ rfl (hpv _ (by decide))
        refine rd_op2 o_ix ?_
        refine rd_var rfl ?_
        intro _
        refine rd_call hec hE ?_
        refine ra_cons ?_
        refine rd_ali rfl ?_
        intro _
        refine ra_cons ?_
        refine rd_cb1 o_len ?_
        refine rd_var rfl ?_
        refine ⟨_, _, rfl, rfl, fun t20 => ?_⟩
        intro _
        refine ra_nil ?_
        refine ⟨(z14.1, t20), _, rfl, rfl, rfl, fun r19 => ?_⟩
        refine ⟨_, _, _, rfl, rfl, rfl, fun t18 => ?_⟩
        refine ⟨_, rfl, (by show (7 : Nat) < 9; decide), ?_⟩
        refine rs_at [some (deckT r19.2), some (.f (.str q_abcdefghijklmnopqrstuvwxyz)), some (.f r1.1), some (.f r2.1), some (.f (.lst p5.1)), some (.l z14.2), some (.f d13), some (.f t18), none] rfl ?_
        refine rs_drop ?_
        refine rd_append ?_
        refine rd_ali rfl ?_
        refine ⟨5, _, rfl, rfl, fun _ => ?_⟩
        refine rd_tup ?_
        refine ra_cons ?_
        refine rd_var rfl ?_
        intro _
        refine ra_cons ?_
        refine rd_call hec hE ?_
        refine ra_cons ?_
        refine rd_var rfl ?_
        intro _
        refine ra_cons ?_
        refine rd_op2 o_ix ?_
        refine rd_lst ?_
        refine ra_cons ?_
        refine rd_int ?_
        intro _
        refine ra_cons ?_
        refine rd_int ?_
        intro _
        refine ra_cons ?_
        refine rd_int ?_
        intro _
        refine ra_cons ?_
        refine rd_int ?_
        intro _
        refine ra_cons ?_
        refine rd_int ?_
        intro _
        refine ra_cons ?_
        refine rd_int ?_
        intro _
        refine ra_nil ?_
        refine ⟨[(.int 1), (.int 2), (.int 9), (.int 10), (.int 11), (.int 12)], rfl, (by show (6 : Nat) ≤ 1000; decide), ?_⟩
        intro _
        refine rd_op2 o_fdiv ?_
        refine rd_call hec hE ?_
        refine ra_cons ?_
        refine rd_ali rfl ?_
        intro _
        refine ra_cons ?_
        refine rd_int ?_
        intro _
        refine ra_nil ?_
        refine ⟨(r19.2, (.int 11)), _, rfl, rfl, rfl, fun r25 => ?_⟩
        intro _
        refine rd_int ?_
        refine ⟨_, _, _, rfl, rfl, rfl, fun t24 => ?_⟩
        refine ⟨_, _, _, rfl, rfl, rfl, fun t23 => ?_⟩
        intro _
        refine ra_nil ?_
        refine ⟨(t18, t23), _, rfl, rfl, rfl, fun r22 => ?_⟩
        intro _
        refine ra_nil ?_
        refine ⟨[d13, r22], rfl, (by show (2 : Nat) ≤ 1000; decide), ?_⟩
        refine ⟨_, _, _, rfl, rfl, rfl, fun t21 => ?_⟩
        exact ⟨_, rfl, ⟨.inr rfl, ⟨.inr rfl, ⟨.inr rfl, ⟨.inr rfl, ⟨.inr rfl, ⟨.inr rfl, ⟨.inl rfl, ⟨.inl rfl, ⟨.inl rfl, trivial⟩⟩⟩⟩⟩⟩⟩⟩⟩⟩
      · refine rs_at [some (deckT z14.1), some (.f (.str q_abcdefghijklmnopqrstuvwxyz)), some (.f r1.1), some (.f r2.1), some (.f (.lst p5.1)), some (.l z14.2), none, none, none] rfl ?_
        refine rs_ret ?_
        refine rd_tup ?_
        refine ra_cons ?_
        refine rd_fz ?_
        refine rd_slL ?_
        refine rd_var rfl ?_
        intro _
        refine ro_none ?_
        refine ro_some ?_
        refine rd_var rfl ?_
        refine ⟨_, _, rfl, rfl, fun t27 => ?_⟩
        refine ⟨_, _, rfl, rfl, fun t26 => ?_⟩
        refine ⟨_, rfl, ?_⟩
        intro _
        refine ra_cons ?_
        refine rd_frz rfl ?_
        intro _
        refine ra_nil ?_
        refine ⟨[(.lst t26), (.lst z14.2)], rfl, (by show (2 : Nat) ≤ 1000; decide), ?_⟩
        refine ⟨_, rfl, ?_⟩
        exact ⟨_, rfl, rfl, ⟨rfl, by decide, trivial⟩⟩
theorem ok__law_copy (T : Tx K mg) : FnOk P w K mg base CX0 1 T.a__law_copy T.d__law_copy ["net"] (spOf (A := D) (R := D) EC.ec (fun a => [.f a]) (fun a => m__law_copy a) (fun r => shT [true, true] r) (fun r => [none])) := by
  refine T.F__law_copy.ok sc__law_copy (fun vs H Q E h => ?_) (fun cdv A outer s H vs Q E hr h => ?_)
  · obtain ⟨a, G, w, _, _, hl, _⟩ := h; exact hl
  · refine ⟨_, (pss_one (ps_ret (pe_tup (pa_cons (pe_callTy (call_listK (Kf := K) (by rfl)) (by rfl) T.n_list PyProof.Rows.boot_list (pa_cons (pe_ix (ix_anyK (Kf := K) (by rfl)) (pv 0) pe_int (fun _ _ => rfl)) pa_nil)) (pa_cons (pe_callTy (call_listK (Kf := K) (by rfl)) (by rfl) T.n_list PyProof.Rows.boot_list (pa_cons (pe_ix (ix_anyK (Kf := K) (by rfl)) (pv 0) pe_int (fun _ _ => rfl)) pa_nil)) pa_nil))))), ?_⟩
    refine fn_body (K := K) [] (fun _ => by show (1 : Nat) ≤ 1; decide) (fun _ => by show ∀ k ∈ ([] : List Nat), k < 1; decide) h (fun F x_net hec hE hK hpv => ?_)
    skip
    show RS F [] [some (.f x_net)] (m__law_copy x_net) _ _ _
    unfold m__law_copy
    refine rs_ret ?_
    refine rd_tupO ?_
    refine ra_cons ?_
    refine rd_cb1L o_list ?_
    refine rd_op2 o_ix ?_
    refine rd_var rfl ?_
    intro _
    refine rd_int ?_
    refine ⟨_, _, _, rfl, rfl, rfl, fun t2 => ?_⟩
    refine ⟨_, _, rfl, rfl, fun t1 => ?_⟩
    intro _
    refine ra_cons ?_
    refine rd_cb1L o_list ?_
    refine rd_op2 o_ix ?_
    refine rd_var rfl ?_
    intro _
    refine rd_int ?_
    refine ⟨_, _, _, rfl, rfl, rfl, fun t4 => ?_⟩
    refine ⟨_, _, rfl, rfl, fun t3 => ?_⟩
    intro _
    refine ra_nil ?_
    refine ⟨([.l t1, .l t3] : List VL.T), rfl, (by show (2 : Nat) ≤ 1000; decide), ?_⟩
    refine ⟨_, rfl, ?_⟩
    exact ⟨_, rfl, rfl, trivial⟩
theorem ok__law_read_as (T : Tx K mg) : ∀ n_ : Nat, FnOk P w K mg base CX0 (n_ + 1) T.a__law_read_as T.d__law_read_as ["rule", "name", "other"] (spOf (A := D × D × D) (R := D) EC.ec (fun a => [.f a.1, .f a.2.1, .f a.2.2]) (fun a => m__law_read_as n_ a.1 a.2.1 a.2.2) (fun r => .f r) (fun r => [none, none, none]))
  | 0 => by
    refine T.F__law_read_as.ok sc__law_read_as (fun vs H Q E h => ?_) (fun cdv A outer s H vs Q E hr h => ?_)
    · obtain ⟨a, G, w, _, _, hl, _⟩ := h; exact hl
    · obtain ⟨a, G, w, _, _, _, _, nf, _⟩ := h; exact absurd rfl nf
  | n_ + 1 => by
    refine T.F__law_read_as.ok sc__law_read_as (fun vs H Q E h => ?_) (fun cdv A outer s H vs Q E hr h => ?_)
    · obtain ⟨a, G, w, _, _, hl, _⟩ := h; exact hl
    · refine ⟨_, (pss_cons (ps_if (pt_cmpR (op_eqM (hu_64 hr)) (pe_ix (ix_anyK (Kf := K) (by rfl)) (pv 0) pe_int (fun _ _ => rfl)) pe_str (nomark _)) (pss_one (ps_ret (pe_tup (pa_cons pe_str (pa_cons (pe_ix (ix_anyK (Kf := K) (by rfl)) (pe_lst (pa_cons (pe_ix (ix_anyK (Kf := K) (by rfl)) (pv 0) pe_int (fun _ _ => rfl)) (pa_cons (pv 2) pa_nil))) (pe_callTy call_intA (by rfl) T.n_int PyProof.Rows.boot_int (pa_cons (pe_cmpR (op_eqM (hu_64 hr)) (pe_ix (ix_anyK (Kf := K) (by rfl)) (pv 0) pe_int (fun _ _ => rfl)) (pv 1) (nomark _)) pa_nil)) (fun _ _ => rfl)) pa_nil))))) pss_nil) (pss_one (ps_ret (pe_op (op_catAK (Kf := K) (by rfl)) (pe_tup (pa_cons (pe_ix (ix_anyK (Kf := K) (by rfl)) (pv 0) pe_int (fun _ _ => rfl)) pa_nil)) (pe_callTy (call_tupleK (Kf := K) (by rfl) (by rfl)) (by rfl) T.n_tuple PyProof.Rows.boot_tuple (pa_cons (pe_lc (own := [("one", 3)]) rfl (by exact sc__law_read_as.nd) (pi_tupK (Kf := K) (by rfl) (pe_slice (sl_tupAK (Kf := K) (by rfl)) (pv 0) (po_some pe_int) po_none)) blk__law_read_as_0 (fun _ _ _ _ _ => (pg_name (i := 3) sc__law_read_as.nd rfl (by first | exact .inl rfl | exact .inr rfl))) (fun _ _ _ _ _ => pts_nil) (fun _ _ _ _ _ => (pe_call (ok__law_read_as T n_) (hr.mono (by omega)) (by rfl) T.g__law_read_as T.F__law_read_as.kp T.b__law_read_as .nil (show Passes CX0 _ E from pass0) (pa_cons (pv 3) (pa_cons (pv 1) (pa_cons (pv 2) pa_nil)))))) pa_nil)))))), ?_⟩
      refine fn_body (K := K) [] (fun _ => by show (3 : Nat) ≤ 4; decide) (fun _ => by show ∀ k ∈ ([] : List Nat), k < 3; decide) h (fun F a hec hE hK hpv => ?_)
      obtain ⟨x_rule, x_name, x_other⟩ := a
      show RS F [] [some (.f x_rule), some (.f x_name), some (.f x_other), none] (m__law_read_as (n_ + 1) x_rule x_name x_other) _ _ _
      rw [m__law_read_as]
      refine rs_seq ?_
      refine rs_if ?_
      refine rt_op2B o_eq ?_
      refine rd_op2 o_ix ?_
      refine rd_var rfl ?_
      intro _
      refine rd_int ?_
      refine ⟨_, _, _, rfl, rfl, rfl, fun t2 => ?_⟩
      intro _
      refine rd_str e_q_wire ?_
      refine ⟨_, _, _, rfl, rfl, rfl, fun t1 => ?_⟩
      refine ⟨_, _, rfl, fun _ => ?_, fun _ => ?_⟩
      · refine rs_ret ?_
        refine rd_tup ?_
        refine ra_cons ?_
        refine rd_str e_q_wire ?_
        intro _
        refine ra_cons ?_
        refine rd_op2 o_ix ?_
        refine rd_lst ?_
        refine ra_cons ?_
        refine rd_op2 o_ix ?_
        refine rd_var rfl ?_
        intro _
        refine rd_int ?_
        refine ⟨_, _, _, rfl, rfl, rfl, fun t4 => ?_⟩
        intro _
        refine ra_cons ?_
        refine rd_var rfl ?_
        intro _
        refine ra_nil ?_
        refine ⟨[t4, x_other], rfl, (by show (2 : Nat) ≤ 1000; decide), ?_⟩
        intro _
        refine rd_cb1 o_int ?_
        refine rd_op2B o_eq ?_
        refine rd_op2 o_ix ?_
        refine rd_var rfl ?_
        intro _
        refine rd_int ?_
        refine ⟨_, _, _, rfl, rfl, rfl, fun t7 => ?_⟩
        intro _
        refine rd_var rfl ?_
        refine ⟨_, _, _, rfl, rfl, rfl, fun t6 => ?_⟩
        refine ⟨_, _, rfl, rfl, fun t5 => ?_⟩
        refine ⟨_, _, _, rfl, rfl, rfl, fun t3 => ?_⟩
        intro _
        refine ra_nil ?_
        refine ⟨[(.str q_wire), t3], rfl, (by show (2 : Nat) ≤ 1000; decide), ?_⟩
        refine ⟨_, rfl, ?_⟩
        exact ⟨_, rfl, rfl, trivial⟩
      · refine rs_next ?_
        refine rs_at [some (.f x_rule), some (.f x_name), some (.f x_other), none] rfl ?_
        refine rs_ret ?_
        refine rd_catT ?_
        refine rd_tup ?_
        refine ra_cons ?_
        refine rd_op2 o_ix ?_
        refine rd_var rfl ?_
        intro _
        refine rd_int ?_
        refine ⟨_, _, _, rfl, rfl, rfl, fun t9 => ?_⟩
        intro _
        refine ra_nil ?_
        refine ⟨[t9], rfl, (by show (1 : Nat) ≤ 1000; decide), ?_⟩
        intro _
        refine rd_tupL ?_
        refine rd_lcR [3] (fun i hi => hi) (all1 (hpv _ (by decide))) ?_
        refine ri_tup ?_
        refine rd_slT ?_
        refine rd_var rfl ?_
        intro _
        refine ro_some ?_
        refine rd_int ?_
        refine ⟨_, _, rfl, rfl, fun t15 => ?_⟩
        refine ro_none ?_
        refine ⟨_, _, rfl, rfl, fun t14 => ?_⟩
        refine ⟨_, _, rfl, rfl, fun ds13 _ => ?_⟩
        refine ⟨[some (.f x_rule), some (.f x_name), some (.f x_other), none], _, _, rfl, ⟨.inr rfl, ⟨.inr rfl, ⟨.inr rfl, ⟨.inl rfl, trivial⟩⟩⟩⟩, (by first | exact trivial | rfl | exact ⟨rfl, rfl⟩), (all1 rfl), rfl, fun d11 _ _ => ?_, fun ys12 => ?_⟩
        · refine rg_name (by show (3 : Nat) < 4; decide) rfl (hpv _ (by decide)) ?_
          refine rt_true rfl ?_
          refine ⟨_, .ok none, (if_pos rfl).symm, fun _ => ?_, fun h => by cases h⟩
          refine rd_call hec hE ?_
          refine ra_cons ?_
          refine rd_var rfl ?_
          intro _
          refine ra_cons ?_
          refine rd_var rfl ?_
          intro _
          refine ra_cons ?_
          refine rd_var rfl ?_
          intro _
          refine ra_nil ?_
          refine ⟨(d11, x_name, x_other), _, rfl, rfl, rfl, fun r16 => ?_⟩
          exact ⟨_, rfl, rfl, ⟨.inr rfl, ⟨.inr rfl, ⟨.inr rfl, ⟨.inl rfl, trivial⟩⟩⟩⟩⟩
        · refine ⟨_, _, rfl, rfl, fun t10 => ?_⟩
          refine ⟨_, _, _, rfl, rfl, rfl, fun t8 => ?_⟩
          refine ⟨_, rfl, ?_⟩
          exact ⟨_, rfl, rfl, trivial⟩
theorem ok__law_named (T : Tx K mg) : FnOk P w K mg base CX0 26 T.a__law_named T.d__law_named ["deck", "net"] (spOf (A := ((List (List D) × D)) × D) (R := D × ((List (List D) × D))) EC.ec (fun a => [deckT a.1, .f a.2]) (fun a => m__law_named a.1 a.2) (fun r => .f r.1) (fun r => [some (deckT r.2), none])) := by
  refine T.F__law_named.ok sc__law_named (fun vs H Q E h => ?_) (fun cdv A outer s H vs Q E hr h => ?_)
  · obtain ⟨a, G, w, _, _, hl, _⟩ := h; exact hl
  · refine ⟨_, (pss_cons (ps_set (i := 2) sc__law_named.nd rfl (by first | exact .inl rfl | exact .inr rfl) (pe_op op_catR (pe_ix (ix_anyK (Kf := K) (by rfl)) (pv 1) pe_int (fun _ _ => rfl)) (pe_lc (own := [("gate", 14)]) rfl (by exact sc__law_named.nd) (pi_listK (Kf := K) (by rfl) (pe_ix (ix_anyK (Kf := K) (by rfl)) (pv 1) pe_int (fun _ _ => rfl))) blk__law_named_2 (fun _ _ _ _ _ => (pg_name (i := 14) sc__law_named.nd rfl (by first | exact .inl rfl | exact .inr rfl))) (fun _ _ _ _ _ => pts_nil) (fun _ _ _ _ _ => (pe_ix (ix_anyK (Kf := K) (by rfl)) (pv 14) pe_int (fun _ _ => rfl)))))) (pss_cons (ps_set (i := 3) sc__law_named.nd rfl (by first | exact .inl rfl | exact .inr rfl) (pe_ix (ix_anyK (Kf := K) (by rfl)) (pv 2) (pe_call (ok__law_draw T) (hr.mono (by decide)) (by rfl) T.g__law_draw T.F__law_draw.kp T.b__law_draw .nil (show Passes CX0 _ E from pass0) (pa_cons (pv 0) (pa_cons (pe_callB (call_lenK (Kf := K) (by rfl)) (by rfl) T.n_len PySem.boot_len (pa_cons (pv 2) pa_nil)) pa_nil))) (fun _ _ => rfl))) (pss_cons (ps_set (i := 4) sc__law_named.nd rfl (by first | exact .inl rfl | exact .inr rfl) (pe_call (ok__law_draw T) (hr.mono (by decide)) (by rfl) T.g__law_draw T.F__law_draw.kp T.b__law_draw .nil (show Passes CX0 _ E from pass0) (pa_cons (pv 0) (pa_cons (pe_callB (call_lenK (Kf := K) (by rfl)) (by rfl) T.n_len PySem.boot_len (pa_cons (pv 3) pa_nil)) pa_nil)))) (pss_cons (ps_set (i := 5) sc__law_named.nd rfl (by first | exact .inl rfl | exact .inr rfl) pe_str) (pss_cons (ps_set (i := 6) sc__law_named.nd rfl (by first | exact .inl rfl | exact .inr rfl) (pe_ix (ix_anyK (Kf := K) (by rfl)) (pv 5) (pe_call (ok__law_draw T) (hr.mono (by decide)) (by rfl) T.g__law_draw T.F__law_draw.kp T.b__law_draw .nil (show Passes CX0 _ E from pass0) (pa_cons (pv 0) (pa_cons (pe_callB (call_lenK (Kf := K) (by rfl)) (by rfl) T.n_len PySem.boot_len (pa_cons (pv 5) pa_nil)) pa_nil))) (fun _ _ => rfl))) (pss_cons (ps_set (i := 7) sc__law_named.nd rfl (by first | exact .inl rfl | exact .inr rfl) (pe_joinK (Kf := K) (by rfl) pe_str (pe_lc (own := [("k", 15)]) rfl (by exact sc__law_named.nd) (pi_range1 (by rfl) T.n_range (pa_cons pe_int pa_nil)) blk__law_named_1 (fun _ _ _ _ _ => (pg_name (i := 15) sc__law_named.nd rfl (by first | exact .inl rfl | exact .inr rfl))) (fun _ _ _ _ _ => pts_nil) (fun _ _ _ _ _ => (pe_ix (ix_anyK (Kf := K) (by rfl)) pe_str (pe_call (ok__law_draw T) (hr.mono (by decide)) (by rfl) T.g__law_draw T.F__law_draw.kp T.b__law_draw .nil (show Passes CX0 _ E from pass0) (pa_cons (pv 0) (pa_cons pe_int pa_nil))) (fun _ _ => rfl)))))) (pss_cons (ps_set (i := 8) sc__law_named.nd rfl (by first | exact .inl rfl | exact .inr rfl) (pe_lst (pa_cons (pe_op op_addA (pe_op op_addA (pe_slice sl_str (pv 3) po_none (po_some (pv 4))) (pv 6)) (pe_slice sl_str (pv 3) (po_some (pv 4)) po_none)) (pa_cons (pe_op op_addA (pe_op op_addA (pe_slice sl_str (pv 3) po_none (po_some (pv 4))) (pv 6)) (pe_slice sl_str (pv 3) (po_some (pe_op op_addA (pv 4) pe_int)) po_none)) (pa_cons (pe_op op_addA (pv 3) (pv 6)) pa_nil))))) (pss_cons (ps_set (i := 9) sc__law_named.nd rfl (by first | exact .inl rfl | exact .inr rfl) (pe_ix (ix_anyK (Kf := K) (by rfl)) (pe_op op_catR (pv 8) (pe_lst (pa_cons (pe_slice sl_str (pv 7) po_none (po_some (pe_op op_addA pe_int (pe_call (ok__law_draw T) (hr.mono (by decide)) (by rfl) T.g__law_draw T.F__law_draw.kp T.b__law_draw .nil (show Passes CX0 _ E from pass0) (pa_cons (pv 0) (pa_cons pe_int pa_nil)))))) pa_nil))) (pe_call (ok__law_draw T) (hr.mono (by decide)) (by rfl) T.g__law_draw T.F__law_draw.kp T.b__law_draw .nil (show Passes CX0 _ E from pass0) (pa_cons (pv 0) (pa_cons pe_int pa_nil))) (fun _ _ => rfl))) (pss_cons (ps_setLc (i := 10) (own := [("one", 12)]) rfl sc__law_named.nd rfl (by rfl) (by rfl) (pi_listK (Kf := K) (by rfl) (pe_ix (ix_anyK (Kf := K) (by rfl)) (pv 1) pe_int (fun _ _ => rfl))) blk__law_named_0 (fun _ _ _ _ _ => (pg_name (i := 12) sc__law_named.nd rfl (by first | exact .inl rfl | exact .inr rfl))) (fun _ _ _ _ _ => pts_nil) (fun _ _ _ _ _ => (pe_ix (ix_anyK (Kf := K) (by rfl)) (pe_lst (pa_cons (pv 12) (pa_cons (pv 9) pa_nil))) (pe_callTy call_intA (by rfl) T.n_int PyProof.Rows.boot_int (pa_cons (pe_cmpR (op_eqM (hu_64 hr)) (pv 12) (pv 3) (nomark _)) pa_nil)) (fun _ _ => rfl)))) (pss_cons (ps_set (i := 11) sc__law_named.nd rfl (by first | exact .inl rfl | exact .inr rfl) (pe_lst pa_nil)) (pss_cons (ps_for PassesOwn.never rfl (pi_listK (Kf := K) (by rfl) (pe_ix (ix_anyK (Kf := K) (by rfl)) (pv 1) pe_int (fun _ _ => rfl))) (pg_tupK (Kf := K) (n := 2) (by rfl) rfl (pgs_cons (pg_name (i := 12) sc__law_named.nd rfl (by first | exact .inl rfl | exact .inr rfl)) (pgs_cons (pg_name (i := 13) sc__law_named.nd rfl (by first | exact .inl rfl | exact .inr rfl)) pgs_nil))) (pss_one (ps_expr (pe_bmK (Kf := K) (by rfl) PySem.F.plainAttrs_list PySem.F.slot_list_append PySem.F.type_list_append mt_append (pv 11) (pa_cons (pe_tup (pa_cons (pe_ix (ix_anyK (Kf := K) (by rfl)) (pe_lst (pa_cons (pv 12) (pa_cons (pv 9) pa_nil))) (pe_callTy call_intA (by rfl) T.n_int PyProof.Rows.boot_int (pa_cons (pe_cmpR (op_eqM (hu_64 hr)) (pv 12) (pv 3) (nomark _)) pa_nil)) (fun _ _ => rfl)) (pa_cons (pe_call (ok__law_read_as T 24) (hr.mono (by decide)) (by rfl) T.g__law_read_as T.F__law_read_as.kp T.b__law_read_as .nil (show Passes CX0 _ E from pass0) (pa_cons (pv 13) (pa_cons (pv 3) (pa_cons (pv 9) pa_nil)))) pa_nil))) pa_nil))))) (pss_one (ps_ret (pe_tup (pa_cons (pv 10) (pa_cons (pv 11) pa_nil)))))))))))))))), ?_⟩
    refine fn_body (K := K) [0] (fun _ => by show (2 : Nat) ≤ 16; decide) (fun _ => by show ∀ k ∈ ([0] : List Nat), k < 2; decide) h (fun F a hec hE hK hpv => ?_)
    obtain ⟨x_deck, x_net⟩ := a
    show RS F [] [some (deckT x_deck), some (.f x_net), none, none, none, none, none, none, none, none, none, none, none, none, none, none] (m__law_named x_deck x_net) _ _ _
    unfold m__law_named
    refine rs_seq ?_
    refine rs_set ?_ rfl (hpv _ (by decide))
    refine rd_fz ?_
    refine rd_op2L o_cat ?_
    refine rd_op2 o_ix ?_
    refine rd_var rfl ?_
    intro _
    refine rd_int ?_
    refine ⟨_, _, _, rfl, rfl, rfl, fun t2 => ?_⟩
    intro _
    refine rd_lcR [14] (fun i hi => hi) (all1 (hpv _ (by decide))) ?_
    refine ri_lst ?_
    refine rd_op2 o_ix ?_
    refine rd_var rfl ?_
    intro _
    refine rd_int ?_
    refine ⟨_, _, _, rfl, rfl, rfl, fun t6 => ?_⟩
    refine ⟨_, _, rfl, rfl, fun ds5 _ => ?_⟩
    refine ⟨[some (deckT x_deck), some (.f x_net), none, none, none, none, none, none, none, none, none, none, none, none, none, none], _, _, rfl, ⟨.inr rfl, ⟨.inr rfl, ⟨.inl rfl, ⟨.inl rfl, ⟨.inl rfl, ⟨.inl rfl, ⟨.inl rfl, ⟨.inl rfl, ⟨.inl rfl, ⟨.inl rfl, ⟨.inl rfl, ⟨.inl rfl, ⟨.inl rfl, ⟨.inl rfl, ⟨.inl rfl, ⟨.inl rfl, trivial⟩⟩⟩⟩⟩⟩⟩⟩⟩⟩⟩⟩⟩⟩⟩⟩, (by first | exact trivial | rfl | exact ⟨rfl, rfl⟩), (all1 rfl), rfl, fun d3 _ _ => ?_, fun ys4 => ?_⟩
    · refine rg_name (by show (14 : Nat) < 16; decide) rfl (hpv _ (by decide)) ?_
      refine rt_true rfl ?_
      refine ⟨_, .ok none, (if_pos rfl).symm, fun _ => ?_, fun h => by cases h⟩
      refine rd_op2 o_ix ?_
      refine rd_var rfl ?_
      intro _
      refine rd_int ?_
      refine ⟨_, _, _, rfl, rfl, rfl, fun t7 => ?_⟩
      exact ⟨_, rfl, rfl, ⟨.inr rfl, ⟨.inr rfl, ⟨.inl rfl, ⟨.inl rfl, ⟨.inl rfl, ⟨.inl rfl, ⟨.inl rfl, ⟨.inl rfl, ⟨.inl rfl, ⟨.inl rfl, ⟨.inl rfl, ⟨.inl rfl, ⟨.inl rfl, ⟨.inl rfl, ⟨.inl rfl, ⟨.inl rfl, trivial⟩⟩⟩⟩⟩⟩⟩⟩⟩⟩⟩⟩⟩⟩⟩⟩⟩
    · refine ⟨_, _, _, rfl, rfl, rfl, fun t1 => ?_⟩
      refine ⟨_, rfl, ?_⟩
      refine ⟨_, rfl, (by show (2 : Nat) < 16; decide), ?_⟩
      refine rs_at [some (deckT x_deck), some (.f x_net), some (.f (.lst t1)), none, none, none, none, none, none, none, none, none, none, none, none, none] rfl ?_
      refine rs_seq ?_
      refine rs_set ?_ rfl (hpv _ (by decide))
      refine rd_op2 o_ix ?_
      refine rd_var rfl ?_
      intro _
      refine rd_call hec hE ?_
      refine ra_cons ?_
      refine rd_ali rfl ?_
      intro _
      refine ra_cons ?_
      refine rd_cb1 o_len ?_
      refine rd_var rfl ?_
      refine ⟨_, _, rfl, rfl, fun t10 => ?_⟩
      intro _
      refine ra_nil ?_
      refine ⟨(x_deck, t10), _, rfl, rfl, rfl, fun r9 => ?_⟩
      refine ⟨_, _, _, rfl, rfl, rfl, fun t8 => ?_⟩
      refine ⟨_, rfl, (by show (3 : Nat) < 16; decide), ?_⟩
      refine rs_at [some (deckT r9.2), some (.f x_net), some (.f (.lst t1)), some (.f t8), none, none, none, none, none, none, none, none, none, none, none, none] rfl ?_
      refine rs_seq ?_
      refine rs_set ?_ rfl (hpv _ (by decide))
      refine rd_call hec hE ?_
      refine ra_cons ?_
      refine rd_ali rfl ?_
      intro _
      refine ra_cons ?_
      refine rd_cb1 o_len ?_
      refine rd_var rfl ?_
      refine ⟨_, _, rfl, rfl, fun t12 => ?_⟩
      intro _
      refine ra_nil ?_
      refine ⟨(r9.2, t12), _, rfl, rfl, rfl, fun r11 => ?_⟩
      refine ⟨_, rfl, (by show (4 : Nat) < 16; decide), ?_⟩
      refine rs_at [some (deckT r11.2), some (.f x_net), some (.f (.lst t1)), some (.f t8), some (.f r11.1), none, none, none, none, none, none, none, none, none, none, none] rfl ?_
      refine rs_seq ?_
      refine rs_set ?_ rfl (hpv _ (by decide))
      refine rd_str e_qn_13 ?_
      refine ⟨_, rfl, (by show (5 : Nat) < 16; decide), ?_⟩
      refine rs_at [some (deckT r11.2), some (.f x_net), some (.f (.lst t1)), some (.f t8), some (.f r11.1), some (.f (.str qn_13)), none, none, none, none, none, none, none, none, none, none] rfl ?_
      refine rs_seq ?_
      refine rs_set ?_ rfl (hpv _ (by decide))
      refine rd_op2 o_ix ?_
      refine rd_var rfl ?_
      intro _
      refine rd_call hec hE ?_
      refine ra_cons ?_
      refine rd_ali rfl ?_
      intro _
      refine ra_cons ?_
      refine rd_cb1 o_len ?_
      refine rd_var rfl ?_
      refine ⟨_, _, rfl, rfl, fun t15 => ?_⟩
      intro _
      refine ra_nil ?_
      refine ⟨(r11.2, t15), _, rfl, rfl, rfl, fun r14 => ?_⟩
      refine ⟨_, _, _, rfl, rfl, rfl, fun t13 => ?_⟩
      refine ⟨_, rfl, (by show (6 : Nat) < 16; decide), ?_⟩
      refine rs_at [some (deckT r14.2), some (.f x_net), some (.f (.lst t1)), some (.f t8), some (.f r11.1), some (.f (.str qn_13)), some (.f t13), none, none, none, none, none, none, none, none, none] rfl ?_
      refine rs_seq ?_
      refine rs_set ?_ rfl (hpv _ (by decide))
      refine rd_jn ?_
      refine rd_str e_qx_ ?_
      refine ⟨_, _, rfl, rfl, fun t17 _ => ?_⟩
      refine rd_lc (Z := ((List (List D) × D))) [15] (fun i hi => hi) (all1 (hpv _ (by decide))) ?_
      refine ri_range1 ?_
      refine rd_int ?_
      refine ⟨_, _, rfl, rfl, fun ds21 => ?_⟩
      refine ⟨fun z19 => [some (deckT z19), some (.f x_net), some (.f (.lst t1)), some (.f t8), some (.f r11.1), some (.f (.str qn_13)), some (.f t13), none, none, none, none, none, none, none, none, none], r14.2, _, _, rfl, ⟨.inr rfl, ⟨.inr rfl, ⟨.inr rfl, ⟨.inr rfl, ⟨.inr rfl, ⟨.inr rfl, ⟨.inr rfl, ⟨.inl rfl, ⟨.inl rfl, ⟨.inl rfl, ⟨.inl rfl, ⟨.inl rfl, ⟨.inl rfl, ⟨.inl rfl, ⟨.inl rfl, ⟨.inl rfl, trivial⟩⟩⟩⟩⟩⟩⟩⟩⟩⟩⟩⟩⟩⟩⟩⟩, fun _ => (by first | exact trivial | rfl | exact ⟨rfl, rfl⟩), fun _ => (all1 rfl), rfl, fun z19 d18 _ _ => ?_, fun p20 => ?_⟩
      · refine rg_name (by show (15 : Nat) < 16; decide) rfl (hpv _ (by decide)) ?_
        refine rt_true rfl ?_
        refine ⟨_, .ok (none, z19), (if_pos rfl).symm, fun _ => ?_, fun h => by cases h⟩
        refine rd_op2 o_ix ?_
        refine rd_str e_q_abcdefghijklmnopqrstuvwxyz ?_
        intro _
        refine rd_call hec hE ?_
        refine ra_cons ?_
        refine rd_ali rfl ?_
        intro _
        refine ra_cons ?_
        refine rd_int ?_
        intro _
        refine ra_nil ?_
        refine ⟨(z19, (.int 26)), _, rfl, rfl, rfl, fun r23 => ?_⟩
        refine ⟨_, _, _, rfl, rfl, rfl, fun t22 => ?_⟩
        exact ⟨_, _, rfl, rfl, ⟨.inr rfl, ⟨.inr rfl, ⟨.inr rfl, ⟨.inr rfl, ⟨.inr rfl, ⟨.inr rfl, ⟨.inr rfl, ⟨.inl rfl, ⟨.inl rfl, ⟨.inl rfl, ⟨.inl rfl, ⟨.inl rfl, ⟨.inl rfl, ⟨.inl rfl, ⟨.inl rfl, ⟨.inl rfl, trivial⟩⟩⟩⟩⟩⟩⟩⟩⟩⟩⟩⟩⟩⟩⟩⟩⟩
      · refine ⟨_, _, _, rfl, rfl, rfl, fun t16 => ?_⟩
        refine ⟨_, rfl, (by show (7 : Nat) < 16; decide), ?_⟩
        refine rs_at [some (deckT p20.2), some (.f x_net), some (.f (.lst t1)), some (.f t8), some (.f r11.1), some (.f (.str qn_13)), some (.f t13), some (.f t16), none, none, none, none, none, none, none, none] rfl ?_
        refine rs_seq ?_
        refine rs_set ?_ rfl (hpv _ (by decide))
        refine rd_fz ?_
        refine rd_lst ?_
        refine ra_cons ?_
        refine rd_op2 o_add ?_
        refine rd_op2 o_add ?_
        refine rd_slS ?_
        refine rd_var rfl ?_
        intro _
        refine ro_none ?_
        refine ro_some ?_
        refine rd_var rfl ?_
        refine ⟨_, _, rfl, rfl, fun t27 => ?_⟩
        refine ⟨_, _, rfl, rfl, fun t26 => ?_⟩
        intro _
        refine rd_var rfl ?_
        refine ⟨_, _, _, rfl, rfl, rfl, fun t25 => ?_⟩
        intro _
        refine rd_slS ?_
        refine rd_var rfl ?_
        intro _
        refine ro_some ?_
        refine rd_var rfl ?_
        refine ⟨_, _, rfl, rfl, fun t29 => ?_⟩
        refine ro_none ?_
        refine ⟨_, _, rfl, rfl, fun t28 => ?_⟩
        refine ⟨_, _, _, rfl, rfl, rfl, fun t24 => ?_⟩
        intro _
        refine ra_cons ?_
        refine rd_op2 o_add ?_
        refine rd_op2 o_add ?_
        refine rd_slS ?_
        refine rd_var rfl ?_
        intro _
        refine ro_none ?_
        refine ro_some ?_
        refine rd_var rfl ?_
        refine ⟨_, _, rfl, rfl, fun t33 => ?_⟩
        refine ⟨_, _, rfl, rfl, fun t32 => ?_⟩
        intro _
        refine rd_var rfl ?_
        refine ⟨_, _, _, rfl, rfl, rfl, fun t31 => ?_⟩
        intro _
        refine rd_slS ?_
        refine rd_var rfl ?_
        intro _
        refine ro_some ?_
        refine rd_op2 o_add ?_
        refine rd_var rfl ?_
        intro _
        refine rd_int ?_
        refine ⟨_, _, _, rfl, rfl, rfl, fun t36 => ?_⟩
        refine ⟨_, _, rfl, rfl, fun t35 => ?_⟩
        refine ro_none ?_
        refine ⟨_, _, rfl, rfl, fun t34 => ?_⟩
        refine ⟨_, _, _, rfl, rfl, rfl, fun t30 => ?_⟩
        intro _
        refine ra_cons ?_
        refine rd_op2 o_add ?_
        refine rd_var rfl ?_
        intro _
        refine rd_var rfl ?_
        refine ⟨_, _, _, rfl, rfl, rfl, fun t37 => ?_⟩
        intro _
        refine ra_nil ?_
        refine ⟨[t24, t30, t37], rfl, (by show (3 : Nat) ≤ 1000; decide), ?_⟩
        refine ⟨_, rfl, ?_⟩
        refine ⟨_, rfl, (by show (8 : Nat) < 16; decide), ?_⟩
        refine rs_at [some (deckT p20.2), some (.f x_net), some (.f (.lst t1)), some (.f t8), some (.f r11.1), some (.f (.str qn_13)), some (.f t13), some (.f t16), some (.f (.lst [t24, t30, t37])), none, none, none, none, none, none, none] rfl ?_
        refine rs_seq ?_
        refine rs_set ?_ rfl (hpv _ (by decide))
        refine rd_op2 o_ix ?_
        refine rd_op2L o_cat ?_
        refine rd_var rfl ?_
        intro _
        refine rd_lst ?_
        refine ra_cons ?_
        refine rd_slS ?_
        refine rd_var rfl ?_
        intro _
        refine ro_none ?_
        refine ro_some ?_
        refine rd_op2 o_add ?_
        refine rd_int ?_
        intro _
        refine rd_call hec hE ?_
        refine ra_cons ?_
        refine rd_ali rfl ?_
        intro _
        refine ra_cons ?_
        refine rd_int ?_
        intro _
        refine ra_nil ?_
        refine ⟨(p20.2, (.int 9)), _, rfl, rfl, rfl, fun r43 => ?_⟩
        refine ⟨_, _, _, rfl, rfl, rfl, fun t42 => ?_⟩
        refine ⟨_, _, rfl, rfl, fun t41 => ?_⟩
        refine ⟨_, _, rfl, rfl, fun t40 => ?_⟩
        intro _
        refine ra_nil ?_
        refine ⟨[t40], rfl, (by show (1 : Nat) ≤ 1000; decide), ?_⟩
        refine ⟨_, _, _, rfl, rfl, rfl, fun t39 => ?_⟩
        intro _
        refine rd_call hec hE ?_
        refine ra_cons ?_
        refine rd_ali rfl ?_
        intro _
        refine ra_cons ?_
        refine rd_int ?_
        intro _
        refine ra_nil ?_
        refine ⟨(r43.2, (.int 4)), _, rfl, rfl, rfl, fun r44 => ?_⟩
        refine ⟨_, _, _, rfl, rfl, rfl, fun t38 => ?_⟩
        refine ⟨_, rfl, (by show (9 : Nat) < 16; decide), ?_⟩
        refine rs_at [some (deckT r44.2), some (.f x_net), some (.f (.lst t1)), some (.f t8), some (.f r11.1), some (.f (.str qn_13)), some (.f t13), some (.f t16), some (.f (.lst [t24, t30, t37])), some (.f t38), none, none, none, none, none, none] rfl ?_
        refine rs_seq ?_
        refine rs_set ?_ rfl (hpv _ (by decide))
        refine rd_fz ?_
        refine rd_lcR [12] (fun i hi => hi) (all1 (hpv _ (by decide))) ?_
        refine ri_lst ?_
        refine rd_op2 o_ix ?_
        refine rd_var rfl ?_
        intro _
        refine rd_int ?_
        refine ⟨_, _, _, rfl, rfl, rfl, fun t48 => ?_⟩
        refine ⟨_, _, rfl, rfl, fun ds47 _ => ?_⟩
        refine ⟨[some (deckT r44.2), some (.f x_net), some (.f (.lst t1)), some (.f t8), some (.f r11.1), some (.f (.str qn_13)), some (.f t13), some (.f t16), some (.f (.lst [t24, t30, t37])), some (.f t38), none, none, none, none, none, none], _, _, rfl, ⟨.inr rfl, ⟨.inr rfl, ⟨.inr rfl, ⟨.inr rfl, ⟨.inr rfl, ⟨.inr rfl, ⟨.inr rfl, ⟨.inr rfl, ⟨.inr rfl, ⟨.inr rfl, ⟨.inl rfl, ⟨.inl rfl, ⟨.inl rfl, ⟨.inl rfl, ⟨.inl rfl, ⟨.inl rfl, trivial⟩⟩⟩⟩⟩⟩⟩⟩⟩⟩⟩⟩⟩⟩⟩⟩, (by first | exact trivial | rfl | exact ⟨rfl, rfl⟩), (all1 rfl), rfl, fun d45 _ _ => ?_, fun ys46 => ?_⟩
        · refine rg_name (by show (12 : Nat) < 16; decide) rfl (hpv _ (by decide)) ?_
          refine rt_true rfl ?_
          refine ⟨_, .ok none, (if_pos rfl).symm, fun _ => ?_, fun h => by cases h⟩
          refine rd_op2 o_ix ?_
          refine rd_lst ?_
          refine ra_cons ?_
          refine rd_var rfl ?_
          intro _
          refine ra_cons ?_
          refine rd_var rfl ?_
          intro _
          refine ra_nil ?_
          refine ⟨[d45, t38], rfl, (by show (2 : Nat) ≤ 1000; decide), ?_⟩
          intro _
          refine rd_cb1 o_int ?_
          refine rd_op2B o_eq ?_
          refine rd_var rfl ?_
          intro _
          refine rd_var rfl ?_
          refine ⟨_, _, _, rfl, rfl, rfl, fun t51 => ?_⟩
          refine ⟨_, _, rfl, rfl, fun t50 => ?_⟩
          refine ⟨_, _, _, rfl, rfl, rfl, fun t49 => ?_⟩
          exact ⟨_, rfl, rfl, ⟨.inr rfl, ⟨.inr rfl, ⟨.inr rfl, ⟨.inr rfl, ⟨.inr rfl, ⟨.inr rfl, ⟨.inr rfl, ⟨.inr rfl, ⟨.inr rfl, ⟨.inr rfl, ⟨.inl rfl, ⟨.inl rfl, ⟨.inl rfl, ⟨.inl rfl, ⟨.inl rfl, ⟨.inl rfl, trivial⟩⟩⟩⟩⟩⟩⟩⟩⟩⟩⟩⟩⟩⟩⟩⟩⟩
        · refine ⟨_, rfl, ?_⟩
          refine ⟨_, rfl, (by show (10 : Nat) < 16; decide), ?_⟩
          refine rs_at [some (deckT r44.2), some (.f x_net), some (.f (.lst t1)), some (.f t8), some (.f r11.1), some (.f (.str qn_13)), some (.f t13), some (.f t16), some (.f (.lst [t24, t30, t37])), some (.f t38), some (.f (.lst ys46)), none, none, none, none, none] rfl ?_
          refine rs_seq ?_
          refine rs_set ?_ rfl (hpv _ (by decide))
          refine rd_lst ?_
          refine ra_nil ?_
          refine ⟨[], rfl, (by show (0 : Nat) ≤ 1000; decide), ?_⟩
          refine ⟨_, rfl, (by show (11 : Nat) < 16; decide), ?_⟩
          refine rs_at [some (deckT r44.2), some (.f x_net), some (.f (.lst t1)), some (.f t8), some (.f r11.1), some (.f (.str qn_13)), some (.f t13), some (.f t16), some (.f (.lst [t24, t30, t37])), some (.f t38), some (.f (.lst ys46)), some (.l []), none, none, none, none] rfl ?_
          refine rs_seq ?_
          refine rs_forN (Z := (List D)) [12, 13] ?_
          refine ri_lst ?_
          refine rd_op2 o_ix ?_
          refine rd_var rfl ?_
          intro _
          refine rd_int ?_
          refine ⟨_, _, _, rfl, rfl, rfl, fun t55 => ?_⟩
          refine ⟨_, _, rfl, rfl, fun ds54 _ => ?_⟩
          refine ⟨fun z53 => [some (deckT r44.2), some (.f x_net), some (.f (.lst t1)), some (.f t8), some (.f r11.1), some (.f (.str qn_13)), some (.f t13), some (.f t16), some (.f (.lst [t24, t30, t37])), some (.f t38), some (.f (.lst ys46)), some (.l z53), none, none, none, none], _, _, _, rfl, ⟨.inr rfl, ⟨.inr rfl, ⟨.inr rfl, ⟨.inr rfl, ⟨.inr rfl, ⟨.inr rfl, ⟨.inr rfl, ⟨.inr rfl, ⟨.inr rfl, ⟨.inr rfl, ⟨.inr rfl, ⟨.inr rfl, ⟨.inl rfl, ⟨.inl rfl, ⟨.inl rfl, ⟨.inl rfl, trivial⟩⟩⟩⟩⟩⟩⟩⟩⟩⟩⟩⟩⟩⟩⟩⟩, fun _ => (by first | exact trivial | rfl | exact ⟨rfl, rfl⟩), fun z53 d52 => ?_, fun z53 => ?_⟩
          · refine rg_n2 ⟨_, rfl, fun p56 => ?_⟩
            refine rgs_cons (by show (12 : Nat) < 16; decide) rfl (hpv _ (by decide)) ?_
            refine rgs_cons (by show (13 : Nat) < 16; decide) rfl (hpv _ (by decide)) ?_
            refine rgs_nil ?_
            refine rs_at [some (deckT r44.2), some (.f x_net), some (.f (.lst t1)), some (.f t8), some (.f r11.1), some (.f (.str qn_13)), some (.f t13), some (.f t16), some (.f (.lst [t24, t30, t37])), some (.f t38), some (.f (.lst ys46)), some (.l z53), some (.f p56.1), some (.f p56.2), none, none] rfl ?_
            refine rs_drop ?_
            refine rd_append ?_
            refine rd_ali rfl ?_
            refine ⟨11, _, rfl, rfl, fun _ => ?_⟩
            refine rd_tup ?_
            refine ra_cons ?_
            refine rd_op2 o_ix ?_
            refine rd_lst ?_
            refine ra_cons ?_
            refine rd_var rfl ?_
            intro _
            refine ra_cons ?_
            refine rd_var rfl ?_
            intro _
            refine ra_nil ?_
            refine ⟨[p56.1, t38], rfl, (by show (2 : Nat) ≤ 1000; decide), ?_⟩
            intro _
            refine rd_cb1 o_int ?_
            refine rd_op2B o_eq ?_
            refine rd_var rfl ?_
            intro _
            refine rd_var rfl ?_
            refine ⟨_, _, _, rfl, rfl, rfl, fun t60 => ?_⟩
            refine ⟨_, _, rfl, rfl, fun t59 => ?_⟩
            refine ⟨_, _, _, rfl, rfl, rfl, fun t58 => ?_⟩
            intro _
            refine ra_cons ?_
            refine rd_call hec hE ?_
            refine ra_cons ?_
            refine rd_var rfl ?_
            intro _
            refine ra_cons ?_
            refine rd_var rfl ?_
            intro _
            refine ra_cons ?_
            refine rd_var rfl ?_
            intro _
            refine ra_nil ?_
            refine ⟨(p56.2, t8, t38), _, rfl, rfl, rfl, fun r61 => ?_⟩
            intro _
            refine ra_nil ?_
            refine ⟨[t58, r61], rfl, (by show (2 : Nat) ≤ 1000; decide), ?_⟩
            refine ⟨_, _, _, rfl, rfl, rfl, fun t57 => ?_⟩
            exact ⟨_, rfl, ⟨.inr rfl, ⟨.inr rfl, ⟨.inr rfl, ⟨.inr rfl, ⟨.inr rfl, ⟨.inr rfl, ⟨.inr rfl, ⟨.inr rfl, ⟨.inr rfl, ⟨.inr rfl, ⟨.inr rfl, ⟨.inr rfl, ⟨.inl rfl, ⟨.inl rfl, ⟨.inl rfl, ⟨.inl rfl, trivial⟩⟩⟩⟩⟩⟩⟩⟩⟩⟩⟩⟩⟩⟩⟩⟩⟩
          · refine rs_at [some (deckT r44.2), some (.f x_net), some (.f (.lst t1)), some (.f t8), some (.f r11.1), some (.f (.str qn_13)), some (.f t13), some (.f t16), some (.f (.lst [t24, t30, t37])), some (.f t38), some (.f (.lst ys46)), some (.l z53), none, none, none, none] rfl ?_
            refine rs_ret ?_
            refine rd_tup ?_
            refine ra_cons ?_
            refine rd_var rfl ?_
            intro _
            refine ra_cons ?_
            refine rd_frz rfl ?_
            intro _
            refine ra_nil ?_
            refine ⟨[(.lst ys46), (.lst z53)], rfl, (by show (2 : Nat) ≤ 1000; decide), ?_⟩
            refine ⟨_, rfl, ?_⟩
            exact ⟨_, rfl, rfl, ⟨rfl, by decide, trivial⟩⟩
theorem ok__law_odd (T : Tx K mg) : FnOk P w K mg base CX0 2 T.a__law_odd T.d__law_odd ["deck", "thing"] (spOf (A := ((List (List D) × D)) × D) (R := D × ((List (List D) × D))) EC.ec (fun a => [deckT a.1, .f a.2]) (fun a => m__law_odd a.1 a.2) (fun r => .f r.1) (fun r => [some (deckT r.2), none])) := by
  refine T.F__law_odd.ok sc__law_odd (fun vs H Q E h => ?_) (fun cdv A outer s H vs Q E hr h => ?_)
  · obtain ⟨a, G, w, _, _, hl, _⟩ := h; exact hl
  · refine ⟨_, (pss_cons (ps_set (i := 2) sc__law_odd.nd rfl (by first | exact .inl rfl | exact .inr rfl) (pe_lst (pa_cons pe_non (pa_cons pe_int (pa_cons pe_bl (pa_cons pe_str (pa_cons pe_str (pa_cons pe_str (pa_cons pe_str (pa_cons pe_str (pa_cons pe_str (pa_cons (pe_lst pa_nil) (pa_cons (pe_tup pa_nil) (pa_cons pe_dnewK (pa_cons (pe_lst (pa_cons (pv 1) pa_nil)) (pa_cons (pe_tup (pa_cons (pv 1) pa_nil)) pa_nil)))))))))))))))) (pss_cons (ps_set (i := 2) sc__law_odd.nd rfl (by first | exact .inl rfl | exact .inr rfl) (pe_op op_catR (pv 2) (pe_lst (pa_cons (pe_tup (pa_cons pe_str pa_nil)) (pa_cons (pe_tup (pa_cons pe_str (pa_cons pe_str pa_nil))) pa_nil))))) (pss_cons (ps_set (i := 2) sc__law_odd.nd rfl (by first | exact .inl rfl | exact .inr rfl) (pe_op op_catR (pv 2) (pe_lst (pa_cons (pe_tup (pa_cons pe_str (pa_cons (pv 1) pa_nil))) (pa_cons (pe_tup (pa_cons pe_str (pa_cons (pv 1) pa_nil))) (pa_cons (pe_tup (pa_cons pe_str (pa_cons (pv 1) (pa_cons (pv 1) pa_nil)))) (pa_cons (pe_tup (pa_cons pe_str (pa_cons pe_non pa_nil))) pa_nil))))))) (pss_cons (ps_set (i := 2) sc__law_odd.nd rfl (by first | exact .inl rfl | exact .inr rfl) (pe_op op_catR (pv 2) (pe_lst (pa_cons (pe_tup (pa_cons pe_str (pa_cons (pv 1) (pa_cons (pv 1) pa_nil)))) (pa_cons (pe_lst (pa_cons pe_str (pa_cons pe_str pa_nil))) pa_nil))))) (pss_cons (ps_set (i := 2) sc__law_odd.nd rfl (by first | exact .inl rfl | exact .inr rfl) (pe_op op_catR (pv 2) (pe_lst (pa_cons (pe_tup (pa_cons pe_str (pa_cons (pv 1) (pa_cons (pv 1) pa_nil)))) (pa_cons (pe_tup (pa_cons pe_str (pa_cons (pv 1) (pa_cons (pv 1) (pa_cons (pv 1) pa_nil))))) (pa_cons (pe_tup (pa_cons pe_non (pa_cons (pv 1) pa_nil))) (pa_cons (pe_tup (pa_cons pe_str (pa_cons (pe_lst (pa_cons pe_str pa_nil)) pa_nil))) pa_nil))))))) (pss_cons (ps_set (i := 2) sc__law_odd.nd rfl (by first | exact .inl rfl | exact .inr rfl) (pe_op op_catR (pv 2) (pe_lst (pa_cons (pe_tup (pa_cons pe_str (pa_cons pe_str pa_nil))) (pa_cons (pe_tup (pa_cons pe_str (pa_cons (pe_tup (pa_cons pe_str (pa_cons pe_str pa_nil))) pa_nil))) (pa_cons (pe_tup (pa_cons (pe_lst (pa_cons pe_str pa_nil)) (pa_cons (pv 1) (pa_cons (pv 1) pa_nil)))) (pa_cons (pe_tup (pa_cons pe_dnewK (pa_cons (pv 1) pa_nil))) pa_nil))))))) (pss_one (ps_ret (pe_ix (ix_anyK (Kf := K) (by rfl)) (pv 2) (pe_call (ok__law_draw T) (hr.mono (by decide)) (by rfl) T.g__law_draw T.F__law_draw.kp T.b__law_draw .nil (show Passes CX0 _ E from pass0) (pa_cons (pv 0) (pa_cons pe_int pa_nil))) (fun _ _ => rfl)))))))))), ?_⟩
    refine fn_body (K := K) [0] (fun _ => by show (2 : Nat) ≤ 3; decide) (fun _ => by show ∀ k ∈ ([0] : List Nat), k < 2; decide) h (fun F a hec hE hK hpv => ?_)
    obtain ⟨x_deck, x_thing⟩ := a
    show RS F [] [some (deckT x_deck), some (.f x_thing), none] (m__law_odd x_deck x_thing) _ _ _
    unfold m__law_odd
    refine rs_seq ?_
    refine rs_set ?_ rfl (hpv _ (by decide))
    refine rd_fz ?_
    refine rd_lst ?_
    refine ra_cons ?_
    refine rd_non ?_
    intro _
    refine ra_cons ?_
    refine rd_int ?_
    intro _
    refine ra_cons ?_
    refine rd_bl ?_
    intro _
    refine ra_cons ?_
    refine rd_str e_qx_ ?_
    intro _
    refine ra_cons ?_
    refine rd_str e_q_a ?_
    intro _
    refine ra_cons ?_
    refine rd_str e_q_A ?_
    intro _
    refine ra_cons ?_
    refine rd_str e_q_abcdefghi ?_
    intro _
    refine ra_cons ?_
    refine rd_str e_q_a1 ?_
    intro _
    refine ra_cons ?_
    refine rd_str e_q_wire ?_
    intro _
    refine ra_cons ?_
    refine rd_fz ?_
    refine rd_lst ?_
    refine ra_nil ?_
    refine ⟨[], rfl, (by show (0 : Nat) ≤ 1000; decide), ?_⟩
    refine ⟨_, rfl, ?_⟩
    intro _
    refine ra_cons ?_
    refine rd_tup ?_
    refine ra_nil ?_
    refine ⟨[], rfl, (by show (0 : Nat) ≤ 1000; decide), ?_⟩
    intro _
    refine ra_cons ?_
    refine rd_fz ?_
    refine rd_dnewK ?_
    refine ⟨_, rfl, ?_⟩
    intro _
    refine ra_cons ?_
    refine rd_fz ?_
    refine rd_lst ?_
    refine ra_cons ?_
    refine rd_var rfl ?_
    intro _
    refine ra_nil ?_
    refine ⟨[x_thing], rfl, (by show (1 : Nat) ≤ 1000; decide), ?_⟩
    refine ⟨_, rfl, ?_⟩
    intro _
    refine ra_cons ?_
    refine rd_tup ?_
    refine ra_cons ?_
    refine rd_var rfl ?_
    intro _
    refine ra_nil ?_
    refine ⟨[x_thing], rfl, (by show (1 : Nat) ≤ 1000; decide), ?_⟩
    intro _
    refine ra_nil ?_
    refine ⟨[.non, (.int 5), (.bl true), (.str qx_), (.str q_a), (.str q_A), (.str q_abcdefghi), (.str q_a1), (.str q_wire), (.lst []), (.tup []), (.dct false []), (.lst [x_thing]), (.tup [x_thing])], rfl, (by show (14 : Nat) ≤ 1000; decide), ?_⟩
    refine ⟨_, rfl, ?_⟩
    refine ⟨_, rfl, (by show (2 : Nat) < 3; decide), ?_⟩
    refine rs_at [some (deckT x_deck), some (.f x_thing), some (.f (.lst [.non, (.int 5), (.bl true), (.str qx_), (.str q_a), (.str q_A), (.str q_abcdefghi), (.str q_a1), (.str q_wire), (.lst []), (.tup []), (.dct false []), (.lst [x_thing]), (.tup [x_thing])]))] rfl ?_
    refine rs_seq ?_
    refine rs_set ?_ rfl (hpv _ (by decide))
    refine rd_fz ?_
    refine rd_op2L o_cat ?_
    refine rd_var rfl ?_
    intro _
    refine rd_lst ?_
    refine ra_cons ?_
    refine rd_tup ?_
    refine ra_cons ?_
    refine rd_str e_q_wire ?_
    intro _
    refine ra_nil ?_
    refine ⟨[(.str q_wire)], rfl, (by show (1 : Nat) ≤ 1000; decide), ?_⟩
    intro _
    refine ra_cons ?_
    refine rd_tup ?_
    refine ra_cons ?_
    refine rd_str e_q_wire ?_
    intro _
    refine ra_cons ?_
    refine rd_str e_q_nope ?_
    intro _
    refine ra_nil ?_
    refine ⟨[(.str q_wire), (.str q_nope)], rfl, (by show (2 : Nat) ≤ 1000; decide), ?_⟩
    intro _
    refine ra_nil ?_
    refine ⟨[(.tup [(.str q_wire)]), (.tup [(.str q_wire), (.str q_nope)])], rfl, (by show (2 : Nat) ≤ 1000; decide), ?_⟩
    refine ⟨_, _, _, rfl, rfl, rfl, fun t1 => ?_⟩
    refine ⟨_, rfl, ?_⟩
    refine ⟨_, rfl, (by show (2 : Nat) < 3; decide), ?_⟩
    refine rs_at [some (deckT x_deck), some (.f x_thing), some (.f (.lst t1))] rfl ?_
    refine rs_seq ?_
    refine rs_set ?_ rfl (hpv _ (by decide))
    refine rd_fz ?_
    refine rd_op2L o_cat ?_
    refine rd_var rfl ?_
    intro _
    refine rd_lst ?_
    refine ra_cons ?_
    refine rd_tup ?_
    refine ra_cons ?_
    refine rd_str e_q_not ?_
    intro _
    refine ra_cons ?_
    refine rd_var rfl ?_
    intro _
    refine ra_nil ?_
    refine ⟨[(.str q_not), x_thing], rfl, (by show (2 : Nat) ≤ 1000; decide), ?_⟩
    intro _
    refine ra_cons ?_
    refine rd_tup ?_
    refine ra_cons ?_
    refine rd_str e_q_and ?_
    intro _
    refine ra_cons ?_
    refine rd_var rfl ?_
    intro _
    refine ra_nil ?_
    refine ⟨[(.str q_and), x_thing], rfl, (by show (2 : Nat) ≤ 1000; decide), ?_⟩
    intro _
    refine ra_cons ?_
    refine rd_tup ?_
    refine ra_cons ?_
    refine rd_str e_q_or ?_
    intro _
    refine ra_cons ?_
    refine rd_var rfl ?_
    intro _
    refine ra_cons ?_
    refine rd_var rfl ?_
    intro _
    refine ra_nil ?_
    refine ⟨[(.str q_or), x_thing, x_thing], rfl, (by show (3 : Nat) ≤ 1000; decide), ?_⟩
    intro _
    refine ra_cons ?_
    refine rd_tup ?_
    refine ra_cons ?_
    refine rd_str e_q_wire ?_
    intro _
    refine ra_cons ?_
    refine rd_non ?_
    intro _
    refine ra_nil ?_
    refine ⟨[(.str q_wire), .non], rfl, (by show (2 : Nat) ≤ 1000; decide), ?_⟩
    intro _
    refine ra_nil ?_
    refine ⟨[(.tup [(.str q_not), x_thing]), (.tup [(.str q_and), x_thing]), (.tup [(.str q_or), x_thing, x_thing]), (.tup [(.str q_wire), .non])], rfl, (by show (4 : Nat) ≤ 1000; decide), ?_⟩
    refine ⟨_, _, _, rfl, rfl, rfl, fun t2 => ?_⟩
    refine ⟨_, rfl, ?_⟩
    refine ⟨_, rfl, (by show (2 : Nat) < 3; decide), ?_⟩
    refine rs_at [some (deckT x_deck), some (.f x_thing), some (.f (.lst t2))] rfl ?_
    refine rs_seq ?_
    refine rs_set ?_ rfl (hpv _ (by decide))
    refine rd_fz ?_
    refine rd_op2L o_cat ?_
    refine rd_var rfl ?_
    intro _
    refine rd_lst ?_
    refine ra_cons ?_
    refine rd_tup ?_
    refine ra_cons ?_
    refine rd_str e_q_xor ?_
    intro _
    refine ra_cons ?_
    refine rd_var rfl ?_
    intro _
    refine ra_cons ?_
    refine rd_var rfl ?_
    intro _
    refine ra_nil ?_
    refine ⟨[(.str q_xor), x_thing, x_thing], rfl, (by show (3 : Nat) ≤ 1000; decide), ?_⟩
    intro _
    refine ra_cons ?_
    refine rd_fz ?_
    refine rd_lst ?_
    refine ra_cons ?_
    refine rd_str e_q_wire ?_
    intro _
    refine ra_cons ?_
    refine rd_str e_q_a ?_
    intro _
    refine ra_nil ?_
    refine ⟨[(.str q_wire), (.str q_a)], rfl, (by show (2 : Nat) ≤ 1000; decide), ?_⟩
    refine ⟨_, rfl, ?_⟩
    intro _
    refine ra_nil ?_
    refine ⟨[(.tup [(.str q_xor), x_thing, x_thing]), (.lst [(.str q_wire), (.str q_a)])], rfl, (by show (2 : Nat) ≤ 1000; decide), ?_⟩
    refine ⟨_, _, _, rfl, rfl, rfl, fun t3 => ?_⟩
    refine ⟨_, rfl, ?_⟩
    refine ⟨_, rfl, (by show (2 : Nat) < 3; decide), ?_⟩
    refine rs_at [some (deckT x_deck), some (.f x_thing), some (.f (.lst t3))] rfl ?_
    refine rs_seq ?_
    refine rs_set ?_ rfl (hpv _ (by decide))
    refine rd_fz ?_
    refine rd_op2L o_cat ?_
    refine rd_var rfl ?_
    intro _
    refine rd_lst ?_
    refine ra_cons ?_
    refine rd_tup ?_
    refine ra_cons ?_
    refine rd_str e_q_not ?_
    intro _
    refine ra_cons ?_
    refine rd_var rfl ?_
    intro _
    refine ra_cons ?_
    refine rd_var rfl ?_
    intro _
    refine ra_nil ?_
    refine ⟨[(.str q_not), x_thing, x_thing], rfl, (by show (3 : Nat) ≤ 1000; decide), ?_⟩
    intro _
    refine ra_cons ?_
    refine rd_tup ?_
    refine ra_cons ?_
    refine rd_str e_q_and ?_
    intro _
    refine ra_cons ?_
    refine rd_var rfl ?_
    intro _
    refine ra_cons ?_
    refine rd_var rfl ?_
    intro _
    refine ra_cons ?_
    refine rd_var rfl ?_
    intro _
    refine ra_nil ?_
    refine ⟨[(.str q_and), x_thing, x_thing, x_thing], rfl, (by show (4 : Nat) ≤ 1000; decide), ?_⟩
    intro _
    refine ra_cons ?_
    refine rd_tup ?_
    refine ra_cons ?_
    refine rd_non ?_
    intro _
    refine ra_cons ?_
    refine rd_var rfl ?_
    intro _
    refine ra_nil ?_
    refine ⟨[.non, x_thing], rfl, (by show (2 : Nat) ≤ 1000; decide), ?_⟩
    intro _
    refine ra_cons ?_
    refine rd_tup ?_
    refine ra_cons ?_
    refine rd_str e_q_wire ?_
    intro _
    refine ra_cons ?_
    refine rd_fz ?_
    refine rd_lst ?_
    refine ra_cons ?_
    refine rd_str e_q_a ?_
    intro _
    refine ra_nil ?_
    refine ⟨[(.str q_a)], rfl, (by show (1 : Nat) ≤ 1000; decide), ?_⟩
    refine ⟨_, rfl, ?_⟩
    intro _
    refine ra_nil ?_
    refine ⟨[(.str q_wire), (.lst [(.str q_a)])], rfl, (by show (2 : Nat) ≤ 1000; decide), ?_⟩
    intro _
    refine ra_nil ?_
    refine ⟨[(.tup [(.str q_not), x_thing, x_thing]), (.tup [(.str q_and), x_thing, x_thing, x_thing]), (.tup [.non, x_thing]), (.tup [(.str q_wire), (.lst [(.str q_a)])])], rfl, (by show (4 : Nat) ≤ 1000; decide), ?_⟩
    refine ⟨_, _, _, rfl, rfl, rfl, fun t4 => ?_⟩
    refine ⟨_, rfl, ?_⟩
    refine ⟨_, rfl, (by show (2 : Nat) < 3; decide), ?_⟩
    refine rs_at [some (deckT x_deck), some (.f x_thing), some (.f (.lst t4))] rfl ?_
    refine rs_seq ?_
    refine rs_set ?_ rfl (hpv _ (by decide))
    refine rd_fz ?_
    refine rd_op2L o_cat ?_
    refine rd_var rfl ?_
    intro _
    refine rd_lst ?_
    refine ra_cons ?_
    refine rd_tup ?_
    refine ra_cons ?_
    refine rd_str e_q_a ?_
    intro _
    refine ra_cons ?_
    refine rd_str e_q_b ?_
    intro _
    refine ra_nil ?_
    refine ⟨[(.str q_a), (.str q_b)], rfl, (by show (2 : Nat) ≤ 1000; decide), ?_⟩
    intro _
    refine ra_cons ?_
    refine rd_tup ?_
    refine ra_cons ?_
    refine rd_str e_qx_ ?_
    intro _
    refine ra_cons ?_
    refine rd_tup ?_
    refine ra_cons ?_
    refine rd_str e_q_wire ?_
    intro _
    refine ra_cons ?_
    refine rd_str e_q_a ?_
    intro _
    refine ra_nil ?_
    refine ⟨[(.str q_wire), (.str q_a)], rfl, (by show (2 : Nat) ≤ 1000; decide), ?_⟩
    intro _
    refine ra_nil ?_
    refine ⟨[(.str qx_), (.tup [(.str q_wire), (.str q_a)])], rfl, (by show (2 : Nat) ≤ 1000; decide), ?_⟩
    intro _
    refine ra_cons ?_
    refine rd_tup ?_
    refine ra_cons ?_
    refine rd_fz ?_
    refine rd_lst ?_
    refine ra_cons ?_
    refine rd_str e_q_and ?_
    intro _
    refine ra_nil ?_
    refine ⟨[(.str q_and)], rfl, (by show (1 : Nat) ≤ 1000; decide), ?_⟩
    refine ⟨_, rfl, ?_⟩
    intro _
    refine ra_cons ?_
    refine rd_var rfl ?_
    intro _
    refine ra_cons ?_
    refine rd_var rfl ?_
    intro _
    refine ra_nil ?_
    refine ⟨[(.lst [(.str q_and)]), x_thing, x_thing], rfl, (by show (3 : Nat) ≤ 1000; decide), ?_⟩
    intro _
    refine ra_cons ?_
    refine rd_tup ?_
    refine ra_cons ?_
    refine rd_fz ?_
    refine rd_dnewK ?_
    refine ⟨_, rfl, ?_⟩
    intro _
    refine ra_cons ?_
    refine rd_var rfl ?_
    intro _
    refine ra_nil ?_
    refine ⟨[(.dct false []), x_thing], rfl, (by show (2 : Nat) ≤ 1000; decide), ?_⟩
    intro _
    refine ra_nil ?_
    refine ⟨[(.tup [(.str q_a), (.str q_b)]), (.tup [(.str qx_), (.tup [(.str q_wire), (.str q_a)])]), (.tup [(.lst [(.str q_and)]), x_thing, x_thing]), (.tup [(.dct false []), x_thing])], rfl, (by show (4 : Nat) ≤ 1000; decide), ?_⟩
    refine ⟨_, _, _, rfl, rfl, rfl, fun t5 => ?_⟩
    refine ⟨_, rfl, ?_⟩
    refine ⟨_, rfl, (by show (2 : Nat) < 3; decide), ?_⟩
    refine rs_at [some (deckT x_deck), some (.f x_thing), some (.f (.lst t5))] rfl ?_
    refine rs_ret ?_
    refine rd_op2 o_ix ?_
    refine rd_var rfl ?_
    intro _
    refine rd_call hec hE ?_
    refine ra_cons ?_
    refine rd_ali rfl ?_
    intro _
    refine ra_cons ?_
    refine rd_int ?_
    intro _
    refine ra_nil ?_
    refine ⟨(x_deck, (.int 30)), _, rfl, rfl, rfl, fun r7 => ?_⟩
    refine ⟨_, _, _, rfl, rfl, rfl, fun t6 => ?_⟩
    refine ⟨_, rfl, ?_⟩
    exact ⟨_, rfl, rfl, ⟨rfl, by decide, trivial⟩⟩
theorem ok__law_bent (T : Tx K mg) : ∀ n_ : Nat, FnOk P w K mg base CX0 (n_ + 3) T.a__law_bent T.d__law_bent ["deck", "rule"] (spOf (A := ((List (List D) × D)) × D) (R := D × ((List (List D) × D))) EC.ec (fun a => [deckT a.1, .f a.2]) (fun a => m__law_bent n_ a.1 a.2) (fun r => .f r.1) (fun r => [some (deckT r.2), none]))
  | 0 => by
    refine T.F__law_bent.ok sc__law_bent (fun vs H Q E h => ?_) (fun cdv A outer s H vs Q E hr h => ?_)
    · obtain ⟨a, G, w, _, _, hl, _⟩ := h; exact hl
    · obtain ⟨a, G, w, _, _, _, _, nf, _⟩ := h; exact absurd rfl nf
  | n_ + 1 => by
    refine T.F__law_bent.ok sc__law_bent (fun vs H Q E h => ?_) (fun cdv A outer s H vs Q E hr h => ?_)
    · obtain ⟨a, G, w, _, _, hl, _⟩ := h; exact hl
    · refine ⟨_, (pss_cons (ps_if (pt_cmpR (op_eqM (hu_64 hr)) (pe_call (ok__law_draw T) (hr.mono (by omega)) (by rfl) T.g__law_draw T.F__law_draw.kp T.b__law_draw .nil (show Passes CX0 _ E from pass0) (pa_cons (pv 0) (pa_cons pe_int pa_nil))) pe_int (nomark _)) (pss_one (ps_ret (pe_op (op_catAK (Kf := K) (by rfl)) (pv 1) (pe_tup (pa_cons (pe_ix (ix_anyK (Kf := K) (by rfl)) (pv 1) (pe_un un_neg pe_int) (fun _ _ => rfl)) pa_nil))))) pss_nil) (pss_cons (ps_if (pw_or (pt_cmpR (op_eqM (hu_64 hr)) (pe_ix (ix_anyK (Kf := K) (by rfl)) (pv 1) pe_int (fun _ _ => rfl)) pe_str (nomark _)) (pw_or1 (pt_cmpR (op_eqM (hu_64 hr)) (pe_call (ok__law_draw T) (hr.mono (by omega)) (by rfl) T.g__law_draw T.F__law_draw.kp T.b__law_draw .nil (show Passes CX0 _ E from pass0) (pa_cons (pv 0) (pa_cons pe_int pa_nil))) pe_int (nomark _)))).pt (pss_one (ps_ret (pe_call (ok__law_odd T) (hr.mono (by omega)) (by rfl) T.g__law_odd T.F__law_odd.kp T.b__law_odd .nil (show Passes CX0 _ E from pass0) (pa_cons (pv 0) (pa_cons (pv 1) pa_nil))))) pss_nil) (pss_cons (ps_set (i := 2) sc__law_bent.nd rfl (by first | exact .inl rfl | exact .inr rfl) (pe_op op_addA pe_int (pe_call (ok__law_draw T) (hr.mono (by omega)) (by rfl) T.g__law_draw T.F__law_draw.kp T.b__law_draw .nil (show Passes CX0 _ E from pass0) (pa_cons (pv 0) (pa_cons (pe_op op_sub (pe_callB (call_lenK (Kf := K) (by rfl)) (by rfl) T.n_len PySem.boot_len (pa_cons (pv 1) pa_nil)) pe_int) pa_nil))))) (pss_one (ps_ret (pe_op (op_catAK (Kf := K) (by rfl)) (pe_op (op_catAK (Kf := K) (by rfl)) (pe_slice (sl_tupAK (Kf := K) (by rfl)) (pv 1) po_none (po_some (pv 2))) (pe_tup (pa_cons (pe_call (ok__law_bent T n_) (hr.mono (by omega)) (by rfl) T.g__law_bent T.F__law_bent.kp T.b__law_bent .nil (show Passes CX0 _ E from pass0) (pa_cons (pv 0) (pa_cons (pe_ix (ix_anyK (Kf := K) (by rfl)) (pv 1) (pv 2) (fun _ _ => rfl)) pa_nil))) pa_nil))) (pe_slice (sl_tupAK (Kf := K) (by rfl)) (pv 1) (po_some (pe_op op_addA (pv 2) pe_int)) po_none))))))), ?_⟩
      refine fn_body (K := K) [0] (fun _ => by show (2 : Nat) ≤ 3; decide) (fun _ => by show ∀ k ∈ ([0] : List Nat), k < 2; decide) h (fun F a hec hE hK hpv => ?_)
      obtain ⟨x_deck, x_rule⟩ := a
      show RS F [] [some (deckT x_deck), some (.f x_rule), none] (m__law_bent (n_ + 1) x_deck x_rule) _ _ _
      rw [m__law_bent]
      refine rs_seq ?_
      refine rs_if ?_
      refine rt_op2B o_eq ?_
      refine rd_call hec hE ?_
      refine ra_cons ?_
      refine rd_ali rfl ?_
      intro _
      refine ra_cons ?_
      refine rd_int ?_
      intro _
      refine ra_nil ?_
      refine ⟨(x_deck, (.int 6)), _, rfl, rfl, rfl, fun r2 => ?_⟩
      intro _
      refine rd_int ?_
      refine ⟨_, _, _, rfl, rfl, rfl, fun t1 => ?_⟩
      refine ⟨_, _, rfl, fun _ => ?_, fun _ => ?_⟩
      · refine rs_ret ?_
        refine rd_catT ?_
        refine rd_var rfl ?_
        intro _
        refine rd_tup ?_
        refine ra_cons ?_
        refine rd_op2 o_ix ?_
        refine rd_var rfl ?_
        intro _
        refine rd_un o_neg ?_
        refine rd_int ?_
        refine ⟨_, _, rfl, rfl, fun t5 => ?_⟩
        refine ⟨_, _, _, rfl, rfl, rfl, fun t4 => ?_⟩
        intro _
        refine ra_nil ?_
        refine ⟨[t4], rfl, (by show (1 : Nat) ≤ 1000; decide), ?_⟩
        refine ⟨_, _, _, rfl, rfl, rfl, fun t3 => ?_⟩
        refine ⟨_, rfl, ?_⟩
        exact ⟨_, rfl, rfl, ⟨rfl, by decide, trivial⟩⟩
      · refine rs_next ?_
        refine rs_at [some (deckT r2.2), some (.f x_rule), none] rfl ?_
        refine rs_seq ?_
        refine rs_if ?_
        refine rt_or (Z := ((List (List D) × D))) ?_
        refine rt_op2B o_eq ?_
        refine rd_op2 o_ix ?_
        refine rd_var rfl ?_
        intro _
        refine rd_int ?_
        refine ⟨_, _, _, rfl, rfl, rfl, fun t8 => ?_⟩
        intro _
        refine rd_str e_q_wire ?_
        refine ⟨_, _, _, rfl, rfl, rfl, fun t7 => ?_⟩
        refine ⟨fun z => [some (deckT z), some (.f x_rule), none], r2.2, _, _, rfl, ⟨.inr rfl, ⟨.inr rfl, ⟨.inl rfl, trivial⟩⟩⟩, fun _ => ?_, fun p6 => ?_⟩
        · refine rt_op2B o_eq ?_
          refine rd_call hec hE ?_
          refine ra_cons ?_
          refine rd_ali rfl ?_
          intro _
          refine ra_cons ?_
          refine rd_int ?_
          intro _
          refine ra_nil ?_
          refine ⟨(r2.2, (.int 4)), _, rfl, rfl, rfl, fun r10 => ?_⟩
          intro _
          refine rd_int ?_
          refine ⟨_, _, _, rfl, rfl, rfl, fun t9 => ?_⟩
          exact ⟨_, rfl, ⟨.inr rfl, ⟨.inr rfl, ⟨.inl rfl, trivial⟩⟩⟩⟩
        · refine ⟨_, _, rfl, fun _ => ?_, fun _ => ?_⟩
          · refine rs_ret ?_
            refine rd_call hec hE ?_
            refine ra_cons ?_
            refine rd_ali rfl ?_
            intro _
            refine ra_cons ?_
            refine rd_var rfl ?_
            intro _
            refine ra_nil ?_
            refine ⟨(p6.2, x_rule), _, rfl, rfl, rfl, fun r11 => ?_⟩
            refine ⟨_, rfl, ?_⟩
            exact ⟨_, rfl, rfl, ⟨rfl, by decide, trivial⟩⟩
          · refine rs_next ?_
            refine rs_at [some (deckT p6.2), some (.f x_rule), none] rfl ?_
            refine rs_seq ?_
            refine rs_set ?_ rfl (hpv _ (by decide))
            refine rd_op2 o_add ?_
            refine rd_int ?_
            intro _
            refine rd_call hec hE ?_
            refine ra_cons ?_
            refine rd_ali rfl ?_
            intro _
            refine ra_cons ?_
            refine rd_op2 o_sub ?_
            refine rd_cb1 o_len ?_
            refine rd_var rfl ?_
            refine ⟨_, _, rfl, rfl, fun t15 => ?_⟩
            intro _
            refine rd_int ?_
            refine ⟨_, _, _, rfl, rfl, rfl, fun t14 => ?_⟩
            intro _
            refine ra_nil ?_
            refine ⟨(p6.2, t14), _, rfl, rfl, rfl, fun r13 => ?_⟩
            refine ⟨_, _, _, rfl, rfl, rfl, fun t12 => ?_⟩
            refine ⟨_, rfl, (by show (2 : Nat) < 3; decide), ?_⟩
            refine rs_at [some (deckT r13.2), some (.f x_rule), some (.f t12)] rfl ?_
            refine rs_ret ?_
            refine rd_catT ?_
            refine rd_catT ?_
            refine rd_slT ?_
            refine rd_var rfl ?_
            intro _
            refine ro_none ?_
            refine ro_some ?_
            refine rd_var rfl ?_
            refine ⟨_, _, rfl, rfl, fun t19 => ?_⟩
            refine ⟨_, _, rfl, rfl, fun t18 => ?_⟩
            intro _
            refine rd_tup ?_
            refine ra_cons ?_
            refine rd_call hec hE ?_
            refine ra_cons ?_
            refine rd_ali rfl ?_
            intro _
            refine ra_cons ?_
            refine rd_op2 o_ix ?_
            refine rd_var rfl ?_
            intro _
            refine rd_var rfl ?_
            refine ⟨_, _, _, rfl, rfl, rfl, fun t21 => ?_⟩
            intro _
            refine ra_nil ?_
            refine ⟨(r13.2, t21), _, rfl, rfl, rfl, fun r20 => ?_⟩
            intro _
            refine ra_nil ?_
            refine ⟨[r20.1], rfl, (by show (1 : Nat) ≤ 1000; decide), ?_⟩
            refine ⟨_, _, _, rfl, rfl, rfl, fun t17 => ?_⟩
            intro _
            refine rd_slT ?_
            refine rd_var rfl ?_
            intro _
            refine ro_some ?_
            refine rd_op2 o_add ?_
            refine rd_var rfl ?_
            intro _
            refine rd_int ?_
            refine ⟨_, _, _, rfl, rfl, rfl, fun t24 => ?_⟩
            refine ⟨_, _, rfl, rfl, fun t23 => ?_⟩
            refine ro_none ?_
            refine ⟨_, _, rfl, rfl, fun t22 => ?_⟩
            refine ⟨_, _, _, rfl, rfl, rfl, fun t16 => ?_⟩
            refine ⟨_, rfl, ?_⟩
            exact ⟨_, rfl, rfl, ⟨rfl, by decide, trivial⟩⟩
theorem ok__law_changed (T : Tx K mg) : FnOk P w K mg base CX0 28 T.a__law_changed T.d__law_changed ["deck", "net"] (spOf (A := ((List (List D) × D)) × D) (R := D × ((List (List D) × D))) EC.ec (fun a => [deckT a.1, .f a.2]) (fun a => m__law_changed a.1 a.2) (fun r => .f r.1) (fun r => [some (deckT r.2), none])) := by
  refine T.F__law_changed.ok sc__law_changed (fun vs H Q E h => ?_) (fun cdv A outer s H vs Q E hr h => ?_)
  · obtain ⟨a, G, w, _, _, hl, _⟩ := h; exact hl
  · refine ⟨_, (pss_cons (ps_asg (pe_call (ok__law_copy T) (hr.mono (by decide)) (by rfl) T.g__law_copy T.F__law_copy.kp T.b__law_copy .nil (show Passes CX0 _ E from pass0) (pa_cons (pv 1) pa_nil)) (pg_tupK (Kf := K) (n := 2) (by rfl) rfl (pgs_cons (pg_name (i := 5) sc__law_changed.nd rfl (by first | exact .inl rfl | exact .inr rfl)) (pgs_cons (pg_name (i := 6) sc__law_changed.nd rfl (by first | exact .inl rfl | exact .inr rfl)) pgs_nil)))) (pss_cons (ps_set (i := 2) sc__law_changed.nd rfl (by first | exact .inl rfl | exact .inr rfl) (pe_call (ok__law_draw T) (hr.mono (by decide)) (by rfl) T.g__law_draw T.F__law_draw.kp T.b__law_draw .nil (show Passes CX0 _ E from pass0) (pa_cons (pv 0) (pa_cons pe_int pa_nil)))) (pss_cons (ps_if (pt_cmpR op_gt (pv 2) pe_int (nomark _)) (pss_one (ps_ret (pe_call (ok__law_named T) (hr.mono (by decide)) (by rfl) T.g__law_named T.F__law_named.kp T.b__law_named .nil (show Passes CX0 _ E from pass0) (pa_cons (pv 0) (pa_cons (pv 1) pa_nil))))) pss_nil) (pss_cons (ps_set (i := 3) sc__law_changed.nd rfl (by first | exact .inl rfl | exact .inr rfl) (pe_call (ok__law_draw T) (hr.mono (by decide)) (by rfl) T.g__law_draw T.F__law_draw.kp T.b__law_draw .nil (show Passes CX0 _ E from pass0) (pa_cons (pv 0) (pa_cons (pe_callB (call_lenK (Kf := K) (by rfl)) (by rfl) T.n_len PySem.boot_len (pa_cons (pv 6) pa_nil)) pa_nil)))) (pss_cons (ps_asg (pe_ix (ix_anyK (Kf := K) (by rfl)) (pv 6) (pv 3) (fun _ _ => rfl)) (pg_tupK (Kf := K) (n := 2) (by rfl) rfl (pgs_cons (pg_name (i := 7) sc__law_changed.nd rfl (by first | exact .inl rfl | exact .inr rfl)) (pgs_cons (pg_name (i := 8) sc__law_changed.nd rfl (by first | exact .inl rfl | exact .inr rfl)) pgs_nil)))) (pss_cons (ps_set (i := 4) sc__law_changed.nd rfl (by first | exact .inl rfl | exact .inr rfl) (pe_op op_catR (pv 5) (pe_lc (own := [("gate", 11)]) rfl (by exact sc__law_changed.nd) (pi_listK (Kf := K) (by rfl) (pv 6)) blk__law_changed_0 (fun _ _ _ _ _ => (pg_name (i := 11) sc__law_changed.nd rfl (by first | exact .inl rfl | exact .inr rfl))) (fun _ _ _ _ _ => pts_nil) (fun _ _ _ _ _ => (pe_ix (ix_anyK (Kf := K) (by rfl)) (pv 11) pe_int (fun _ _ => rfl)))))) (pss_cons (ps_if (pt_cmpR (op_eqM (hu_64 hr)) (pv 2) pe_int (nomark _)) (pss_one (ps_asg (pe_tup (pa_cons (pv 7) (pa_cons (pe_call (ok__law_bent T 24) (hr.mono (by decide)) (by rfl) T.g__law_bent T.F__law_bent.kp T.b__law_bent .nil (show Passes CX0 _ E from pass0) (pa_cons (pv 0) (pa_cons (pv 8) pa_nil))) pa_nil))) (pg_sub (pv 6) (pv 3) set_list))) pss_nil) (pss_cons (ps_if (pt_cmpR (op_eqM (hu_64 hr)) (pv 2) pe_int (nomark _)) (pss_one (ps_asg (pe_tup (pa_cons (pe_call (ok__law_odd T) (hr.mono (by decide)) (by rfl) T.g__law_odd T.F__law_odd.kp T.b__law_odd .nil (show Passes CX0 _ E from pass0) (pa_cons (pv 0) (pa_cons (pv 7) pa_nil))) (pa_cons (pv 8) pa_nil))) (pg_sub (pv 6) (pv 3) set_list))) pss_nil) (pss_cons (ps_if (pt_cmpR (op_eqM (hu_64 hr)) (pv 2) pe_int (nomark _)) (pss_one (ps_asg (pe_ix (ix_anyK (Kf := K) (by rfl)) (pe_lst (pa_cons (pe_lst (pa_cons (pv 7) (pa_cons (pv 8) pa_nil))) (pa_cons (pe_tup (pa_cons (pv 7) pa_nil)) (pa_cons (pe_tup (pa_cons (pv 7) (pa_cons (pv 8) (pa_cons pe_int pa_nil)))) (pa_cons pe_non (pa_cons (pe_tup (pa_cons (pv 8) (pa_cons (pv 7) pa_nil))) (pa_cons (pv 7) pa_nil))))))) (pe_call (ok__law_draw T) (hr.mono (by decide)) (by rfl) T.g__law_draw T.F__law_draw.kp T.b__law_draw .nil (show Passes CX0 _ E from pass0) (pa_cons (pv 0) (pa_cons pe_int pa_nil))) (fun _ _ => rfl)) (pg_sub (pv 6) (pv 3) set_list))) pss_nil) (pss_cons (ps_if (pt_cmpR (op_eqM (hu_64 hr)) (pv 2) pe_int (nomark _)) (pss_cons (ps_set (i := 9) sc__law_changed.nd rfl (by first | exact .inl rfl | exact .inr rfl) (pe_ix (ix_anyK (Kf := K) (by rfl)) (pe_lst (pa_cons (pe_ix (ix_anyK (Kf := K) (by rfl)) (pv 4) (pe_call (ok__law_draw T) (hr.mono (by decide)) (by rfl) T.g__law_draw T.F__law_draw.kp T.b__law_draw .nil (show Passes CX0 _ E from pass0) (pa_cons (pv 0) (pa_cons (pe_callB (call_lenK (Kf := K) (by rfl)) (by rfl) T.n_len PySem.boot_len (pa_cons (pv 4) pa_nil)) pa_nil))) (fun _ _ => rfl)) (pa_cons pe_str pa_nil))) (pe_call (ok__law_draw T) (hr.mono (by decide)) (by rfl) T.g__law_draw T.F__law_draw.kp T.b__law_draw .nil (show Passes CX0 _ E from pass0) (pa_cons (pv 0) (pa_cons pe_int pa_nil))) (fun _ _ => rfl))) (pss_one (ps_expr (pe_bmK (Kf := K) (by rfl) PySem.F.plainAttrs_list PySem.F.slot_list_insert PySem.F.type_list_insert mt_insert (pv 5) (pa_cons (pe_call (ok__law_draw T) (hr.mono (by decide)) (by rfl) T.g__law_draw T.F__law_draw.kp T.b__law_draw .nil (show Passes CX0 _ E from pass0) (pa_cons (pv 0) (pa_cons (pe_op op_addA (pe_callB (call_lenK (Kf := K) (by rfl)) (by rfl) T.n_len PySem.boot_len (pa_cons (pv 5) pa_nil)) pe_int) pa_nil))) (pa_cons (pv 9) pa_nil)))))) pss_nil) (pss_cons (ps_if (pt_cmpR (op_eqM (hu_64 hr)) (pv 2) pe_int (nomark _)) (pss_one (ps_expr (pe_bmK (Kf := K) (by rfl) PySem.F.plainAttrs_list PySem.F.slot_list_insert PySem.F.type_list_insert mt_insert (pv 5) (pa_cons (pe_call (ok__law_draw T) (hr.mono (by decide)) (by rfl) T.g__law_draw T.F__law_draw.kp T.b__law_draw .nil (show Passes CX0 _ E from pass0) (pa_cons (pv 0) (pa_cons (pe_op op_addA (pe_callB (call_lenK (Kf := K) (by rfl)) (by rfl) T.n_len PySem.boot_len (pa_cons (pv 5) pa_nil)) pe_int) pa_nil))) (pa_cons (pe_call (ok__law_odd T) (hr.mono (by decide)) (by rfl) T.g__law_odd T.F__law_odd.kp T.b__law_odd .nil (show Passes CX0 _ E from pass0) (pa_cons (pv 0) (pa_cons pe_str pa_nil))) pa_nil))))) pss_nil) (pss_cons (ps_if (pt_cmpR (op_eqM (hu_64 hr)) (pv 2) pe_int (nomark _)) (pss_cons (ps_set (i := 9) sc__law_changed.nd rfl (by first | exact .inl rfl | exact .inr rfl) (pe_ix (ix_anyK (Kf := K) (by rfl)) (pe_lst (pa_cons (pe_ix (ix_anyK (Kf := K) (by rfl)) (pv 6) (pe_call (ok__law_draw T) (hr.mono (by decide)) (by rfl) T.g__law_draw T.F__law_draw.kp T.b__law_draw .nil (show Passes CX0 _ E from pass0) (pa_cons (pv 0) (pa_cons (pe_callB (call_lenK (Kf := K) (by rfl)) (by rfl) T.n_len PySem.boot_len (pa_cons (pv 6) pa_nil)) pa_nil))) (fun _ _ => rfl)) (pa_cons (pe_tup (pa_cons pe_str (pa_cons (pv 8) pa_nil))) pa_nil))) (pe_call (ok__law_draw T) (hr.mono (by decide)) (by rfl) T.g__law_draw T.F__law_draw.kp T.b__law_draw .nil (show Passes CX0 _ E from pass0) (pa_cons (pv 0) (pa_cons pe_int pa_nil))) (fun _ _ => rfl))) (pss_one (ps_expr (pe_bmK (Kf := K) (by rfl) PySem.F.plainAttrs_list PySem.F.slot_list_insert PySem.F.type_list_insert mt_insert (pv 6) (pa_cons (pe_call (ok__law_draw T) (hr.mono (by decide)) (by rfl) T.g__law_draw T.F__law_draw.kp T.b__law_draw .nil (show Passes CX0 _ E from pass0) (pa_cons (pv 0) (pa_cons (pe_op op_addA (pe_callB (call_lenK (Kf := K) (by rfl)) (by rfl) T.n_len PySem.boot_len (pa_cons (pv 6) pa_nil)) pe_int) pa_nil))) (pa_cons (pv 9) pa_nil)))))) pss_nil) (pss_cons (ps_if (pt_cmpR (op_eqM (hu_64 hr)) (pv 2) pe_int (nomark _)) (pss_one (ps_expr (pe_bmK (Kf := K) (by rfl) PySem.F.plainAttrs_list PySem.F.slot_list_pop PySem.F.type_list_pop mt_popAt (pv 6) (pa_cons (pv 3) pa_nil)))) pss_nil) (pss_cons (ps_if (pw_and (pt_cmpR (op_eqM (hu_64 hr)) (pv 2) pe_int (nomark _)) (pw_and1 (pt_cmpR (op_neM (hu_64 hr)) (pv 5) (pe_lst pa_nil) (nomark _)))).pt (pss_one (ps_expr (pe_bmK (Kf := K) (by rfl) PySem.F.plainAttrs_list PySem.F.slot_list_pop PySem.F.type_list_pop mt_popAt (pv 5) (pa_cons (pe_call (ok__law_draw T) (hr.mono (by decide)) (by rfl) T.g__law_draw T.F__law_draw.kp T.b__law_draw .nil (show Passes CX0 _ E from pass0) (pa_cons (pv 0) (pa_cons (pe_callB (call_lenK (Kf := K) (by rfl)) (by rfl) T.n_len PySem.boot_len (pa_cons (pv 5) pa_nil)) pa_nil))) pa_nil)))) pss_nil) (pss_cons (ps_if (pt_cmpR (op_eqM (hu_64 hr)) (pv 2) pe_int (nomark _)) (pss_cons (ps_set (i := 10) sc__law_changed.nd rfl (by first | exact .inl rfl | exact .inr rfl) (pe_lst (pa_cons (pe_lst (pa_cons (pv 5) (pa_cons (pv 6) pa_nil))) (pa_cons (pe_tup (pa_cons (pv 5) pa_nil)) (pa_cons (pe_tup (pa_cons (pv 5) (pa_cons (pv 6) (pa_cons pe_int pa_nil)))) (pa_cons (pe_tup (pa_cons (pe_callTy (call_tupleK (Kf := K) (by rfl) (by rfl)) (by rfl) T.n_tuple PyProof.Rows.boot_tuple (pa_cons (pv 5) pa_nil)) (pa_cons (pv 6) pa_nil))) pa_nil)))))) (pss_cons (ps_set (i := 10) sc__law_changed.nd rfl (by first | exact .inl rfl | exact .inr rfl) (pe_op op_catR (pv 10) (pe_lst (pa_cons (pe_tup (pa_cons (pv 5) (pa_cons (pe_callTy (call_tupleK (Kf := K) (by rfl) (by rfl)) (by rfl) T.n_tuple PyProof.Rows.boot_tuple (pa_cons (pv 6) pa_nil)) pa_nil))) (pa_cons (pe_tup (pa_cons (pv 6) (pa_cons (pv 5) pa_nil))) (pa_cons (pe_tup (pa_cons pe_non (pa_cons (pv 6) pa_nil))) (pa_cons (pe_tup (pa_cons (pv 5) (pa_cons pe_non pa_nil))) pa_nil))))))) (pss_cons (ps_set (i := 10) sc__law_changed.nd rfl (by first | exact .inl rfl | exact .inr rfl) (pe_op op_catR (pv 10) (pe_lst (pa_cons (pe_tup (pa_cons (pe_joinK (Kf := K) (by rfl) pe_str (pv 5)) (pa_cons (pv 6) pa_nil))) (pa_cons (pe_tup (pa_cons pe_dnewK (pa_cons (pv 6) pa_nil))) (pa_cons (pe_tup (pa_cons (pv 5) (pa_cons pe_dnewK pa_nil))) (pa_cons (pe_tup (pa_cons (pv 5) (pa_cons (pe_joinK (Kf := K) (by rfl) pe_str (pv 5)) pa_nil))) pa_nil))))))) (pss_one (ps_ret (pe_ix (ix_anyK (Kf := K) (by rfl)) (pv 10) (pe_call (ok__law_draw T) (hr.mono (by decide)) (by rfl) T.g__law_draw T.F__law_draw.kp T.b__law_draw .nil (show Passes CX0 _ E from pass0) (pa_cons (pv 0) (pa_cons pe_int pa_nil))) (fun _ _ => rfl))))))) pss_nil) (pss_one (ps_ret (pe_tup (pa_cons (pv 5) (pa_cons (pv 6) pa_nil)))))))))))))))))))), ?_⟩
    refine fn_body (K := K) [0] (fun _ => by show (2 : Nat) ≤ 12; decide) (fun _ => by show ∀ k ∈ ([0] : List Nat), k < 2; decide) h (fun F a hec hE hK hpv => ?_)
    obtain ⟨x_deck, x_net⟩ := a
    show RS F [] [some (deckT x_deck), some (.f x_net), none, none, none, none, none, none, none, none, none, none] (m__law_changed x_deck x_net) _ _ _
    unfold m__law_changed
    refine rs_seq ?_
    refine rs_asgO (n := 2) [5, 6] [true, true] rfl rfl ?_
    refine rd_call hec hE ?_
    refine ra_cons ?_
    refine rd_var rfl ?_
    intro _
    refine ra_nil ?_
    refine ⟨(x_net), _, rfl, rfl, rfl, fun r2 => ?_⟩
    refine ⟨_, _, rfl, rfl, (by intro i hi; simp only [List.mem_cons, List.not_mem_nil, or_false] at hi; rcases hi with rfl | rfl <;> exact ⟨by show (_ : Nat) < 12; decide, rfl, hpv _ (by decide)⟩), fun ds1 => ?_⟩
    refine rs_at [some (deckT x_deck), some (.f x_net), none, none, none, some (.l (lstOf (ds1.getD 0 .non))), some (.l (lstOf (ds1.getD 1 .non))), none, none, none, none, none] rfl ?_
    refine rs_seq ?_
    refine rs_set ?_ rfl (hpv _ (by decide))
    refine rd_call hec hE ?_
    refine ra_cons ?_
    refine rd_ali rfl ?_
    intro _
    refine ra_cons ?_
    refine rd_int ?_
    intro _
    refine ra_nil ?_
    refine ⟨(x_deck, (.int 12)), _, rfl, rfl, rfl, fun r3 => ?_⟩
    refine ⟨_, rfl, (by show (2 : Nat) < 12; decide), ?_⟩
    refine rs_at [some (deckT r3.2), some (.f x_net), some (.f r3.1), none, none, some (.l (lstOf (ds1.getD 0 .non))), some (.l (lstOf (ds1.getD 1 .non))), none, none, none, none, none] rfl ?_
    refine rs_seq ?_
    refine rs_if ?_
    refine rt_op2B o_gt ?_
    refine rd_var rfl ?_
    intro _
    refine rd_int ?_
    refine ⟨_, _, _, rfl, rfl, rfl, fun t4 => ?_⟩
    refine ⟨_, _, rfl, fun _ => ?_, fun _ => ?_⟩
    · refine rs_ret ?_
      refine rd_call hec hE ?_
      refine ra_cons ?_
      refine rd_ali rfl ?_
      intro _
      refine ra_cons ?_
      refine rd_var rfl ?_
      intro _
      refine ra_nil ?_
      refine ⟨(r3.2, x_net), _, rfl, rfl, rfl, fun r5 => ?_⟩
      refine ⟨_, rfl, ?_⟩
      exact ⟨_, rfl, rfl, ⟨rfl, by decide, trivial⟩⟩
    · refine rs_next ?_
      refine rs_at [some (deckT r3.2), some (.f x_net), some (.f r3.1), none, none, some (.l (lstOf (ds1.getD 0 .non))), some (.l (lstOf (ds1.getD 1 .non))), none, none, none, none, none] rfl ?_
      refine rs_seq ?_
      refine rs_set ?_ rfl (hpv _ (by decide))
      refine rd_call hec hE ?_
      refine ra_cons ?_
      refine rd_ali rfl ?_
      intro _
      refine ra_cons ?_
      refine rd_cb1 o_len ?_
      refine rd_ali rfl ?_
      refine ⟨_, _, rfl, rfl, fun t7 => ?_⟩
      intro _
      refine ra_nil ?_
      refine ⟨(r3.2, t7), _, rfl, rfl, rfl, fun r6 => ?_⟩
      refine ⟨_, rfl, (by show (3 : Nat) < 12; decide), ?_⟩
      refine rs_at [some (deckT r6.2), some (.f x_net), some (.f r3.1), some (.f r6.1), none, some (.l (lstOf (ds1.getD 0 .non))), some (.l (lstOf (ds1.getD 1 .non))), none, none, none, none, none] rfl ?_
      refine rs_seq ?_
      refine rs_asgG [7, 8] ?_
      refine rd_op2 o_ix ?_
      refine rd_ali rfl ?_
      intro _
      refine rd_var rfl ?_
      refine ⟨_, _, _, rfl, rfl, rfl, fun t8 => ?_⟩
      refine ⟨_, rfl, ?_⟩
      refine rg_n2 ⟨_, rfl, fun p9 => ?_⟩
      refine rgs_cons (by show (7 : Nat) < 12; decide) rfl (hpv _ (by decide)) ?_
      refine rgs_cons (by show (8 : Nat) < 12; decide) rfl (hpv _ (by decide)) ?_
      refine rgs_nil ?_
      refine rs_at [some (deckT r6.2), some (.f x_net), some (.f r3.1), some (.f r6.1), none, some (.l (lstOf (ds1.getD 0 .non))), some (.l (lstOf (ds1.getD 1 .non))), some (.f p9.1), some (.f p9.2), none, none, none] rfl ?_
      refine rs_seq ?_
      refine rs_set ?_ rfl (hpv _ (by decide))
      refine rd_fz ?_
      refine rd_op2L o_cat ?_
      refine rd_ali rfl ?_
      intro _
      refine rd_lcR [11] (fun i hi => hi) (all1 (hpv _ (by decide))) ?_
      refine ri_lst ?_
      refine rd_ali rfl ?_
      refine ⟨_, _, rfl, rfl, fun ds13 _ => ?_⟩
      refine ⟨[some (deckT r6.2), some (.f x_net), some (.f r3.1), some (.f r6.1), none, some (.l (lstOf (ds1.getD 0 .non))), some (.l (lstOf (ds1.getD 1 .non))), some (.f p9.1), some (.f p9.2), none, none, none], _, _, rfl, ⟨.inr rfl, ⟨.inr rfl, ⟨.inr rfl, ⟨.inr rfl, ⟨.inl rfl, ⟨.inr rfl, ⟨.inr rfl, ⟨.inr rfl, ⟨.inr rfl, ⟨.inl rfl, ⟨.inl rfl, ⟨.inl rfl, trivial⟩⟩⟩⟩⟩⟩⟩⟩⟩⟩⟩⟩, (by first | exact trivial | rfl | exact ⟨rfl, rfl⟩), (all1 rfl), rfl, fun d11 _ _ => ?_, fun ys12 => ?_⟩
      · refine rg_name (by show (11 : Nat) < 12; decide) rfl (hpv _ (by decide)) ?_
        refine rt_true rfl ?_
        refine ⟨_, .ok none, (if_pos rfl).symm, fun _ => ?_, fun h => by cases h⟩
        refine rd_op2 o_ix ?_
        refine rd_var rfl ?_
        intro _
        refine rd_int ?_
        refine ⟨_, _, _, rfl, rfl, rfl, fun t14 => ?_⟩
        exact ⟨_, rfl, rfl, ⟨.inr rfl, ⟨.inr rfl, ⟨.inr rfl, ⟨.inr rfl, ⟨.inl rfl, ⟨.inr rfl, ⟨.inr rfl, ⟨.inr rfl, ⟨.inr rfl, ⟨.inl rfl, ⟨.inl rfl, ⟨.inl rfl, trivial⟩⟩⟩⟩⟩⟩⟩⟩⟩⟩⟩⟩⟩
      · refine ⟨_, _, _, rfl, rfl, rfl, fun t10 => ?_⟩
        refine ⟨_, rfl, ?_⟩
        refine ⟨_, rfl, (by show (4 : Nat) < 12; decide), ?_⟩
        refine rs_at [some (deckT r6.2), some (.f x_net), some (.f r3.1), some (.f r6.1), some (.f (.lst t10)), some (.l (lstOf (ds1.getD 0 .non))), some (.l (lstOf (ds1.getD 1 .non))), some (.f p9.1), some (.f p9.2), none, none, none] rfl ?_
        refine rs_seq ?_
        refine rs_join (Z := ((List D) × ((List (List D) × D)))) (fun z18 => [some (deckT z18.2), some (.f x_net), some (.f r3.1), some (.f r6.1), some (.f (.lst t10)), some (.l (lstOf (ds1.getD 0 .non))), some (.l z18.1), some (.f p9.1), some (.f p9.2), none, none, none]) _ _ rfl ?_ (fun z18 => ?_)
        · refine rs_if ?_
          refine rt_op2B o_eq ?_
          refine rd_var rfl ?_
          intro _
          refine rd_int ?_
          refine ⟨_, _, _, rfl, rfl, rfl, fun t19 => ?_⟩
          refine ⟨_, _, rfl, fun _ => ?_, fun _ => ?_⟩
          · refine rs_setL ?_
            refine rd_tup ?_
            refine ra_cons ?_
            refine rd_var rfl ?_
            intro _
            refine ra_cons ?_
            refine rd_call hec hE ?_
            refine ra_cons ?_
            refine rd_ali rfl ?_
            intro _
            refine ra_cons ?_
            refine rd_var rfl ?_
            intro _
            refine ra_nil ?_
            refine ⟨(r6.2, p9.2), _, rfl, rfl, rfl, fun r21 => ?_⟩
            intro _
            refine ra_nil ?_
            refine ⟨[p9.1, r21.1], rfl, (by show (2 : Nat) ≤ 1000; decide), ?_⟩
            refine ⟨_, rfl, fun _ => ?_⟩
            refine rd_ali rfl ?_
            refine ⟨6, rfl, fun _ => ?_⟩
            refine rd_var rfl ?_
            refine ⟨_, _, _, rfl, rfl, rfl, fun t20 => ?_⟩
            exact ⟨_, rfl, ⟨.inr rfl, ⟨.inr rfl, ⟨.inr rfl, ⟨.inr rfl, ⟨.inr rfl, ⟨.inr rfl, ⟨.inr rfl, ⟨.inr rfl, ⟨.inr rfl, ⟨.inl rfl, ⟨.inl rfl, ⟨.inl rfl, trivial⟩⟩⟩⟩⟩⟩⟩⟩⟩⟩⟩⟩⟩
          · refine rs_next ?_
            exact ⟨_, rfl, ⟨.inr rfl, ⟨.inr rfl, ⟨.inr rfl, ⟨.inr rfl, ⟨.inr rfl, ⟨.inr rfl, ⟨.inr rfl, ⟨.inr rfl, ⟨.inr rfl, ⟨.inl rfl, ⟨.inl rfl, ⟨.inl rfl, trivial⟩⟩⟩⟩⟩⟩⟩⟩⟩⟩⟩⟩⟩
        · refine rs_at [some (deckT z18.2), some (.f x_net), some (.f r3.1), some (.f r6.1), some (.f (.lst t10)), some (.l (lstOf (ds1.getD 0 .non))), some (.l z18.1), some (.f p9.1), some (.f p9.2), none, none, none] rfl ?_
          refine rs_seq ?_
          refine rs_join (Z := ((List D) × ((List (List D) × D)))) (fun z25 => [some (deckT z25.2), some (.f x_net), some (.f r3.1), some (.f r6.1), some (.f (.lst t10)), some (.l (lstOf (ds1.getD 0 .non))), some (.l z25.1), some (.f p9.1), some (.f p9.2), none, none, none]) _ _ rfl ?_ (fun z25 => ?_)
          · refine rs_if ?_
            refine rt_op2B o_eq ?_
            refine rd_var rfl ?_
            intro _
            refine rd_int ?_
            refine ⟨_, _, _, rfl, rfl, rfl, fun t26 => ?_⟩
            refine ⟨_, _, rfl, fun _ => ?_, fun _ => ?_⟩
            · refine rs_setL ?_
              refine rd_tup ?_
              refine ra_cons ?_
              refine rd_call hec hE ?_
              refine ra_cons ?_
              refine rd_ali rfl ?_
              intro _
              refine ra_cons ?_
              refine rd_var rfl ?_
              intro _
              refine ra_nil ?_
              refine ⟨(z18.2, p9.1), _, rfl, rfl, rfl, fun r28 => ?_⟩
              intro _
              refine ra_cons ?_
              refine rd_var rfl ?_
              intro _
              refine ra_nil ?_
              refine ⟨[r28.1, p9.2], rfl, (by show (2 : Nat) ≤ 1000; decide), ?_⟩
              refine ⟨_, rfl, fun _ => ?_⟩
              refine rd_ali rfl ?_
              refine ⟨6, rfl, fun _ => ?_⟩
              refine rd_var rfl ?_
              refine ⟨_, _, _, rfl, rfl, rfl, fun t27 => ?_⟩
              exact ⟨_, rfl, ⟨.inr rfl, ⟨.inr rfl, ⟨.inr rfl, ⟨.inr rfl, ⟨.inr rfl, ⟨.inr rfl, ⟨.inr rfl, ⟨.inr rfl, ⟨.inr rfl, ⟨.inl rfl, ⟨.inl rfl, ⟨.inl rfl, trivial⟩⟩⟩⟩⟩⟩⟩⟩⟩⟩⟩⟩⟩
            · refine rs_next ?_
              exact ⟨_, rfl, ⟨.inr rfl, ⟨.inr rfl, ⟨.inr rfl, ⟨.inr rfl, ⟨.inr rfl, ⟨.inr rfl, ⟨.inr rfl, ⟨.inr rfl, ⟨.inr rfl, ⟨.inl rfl, ⟨.inl rfl, ⟨.inl rfl, trivial⟩⟩⟩⟩⟩⟩⟩⟩⟩⟩⟩⟩⟩
          · refine rs_at [some (deckT z25.2), some (.f x_net), some (.f r3.1), some (.f r6.1), some (.f (.lst t10)), some (.l (lstOf (ds1.getD 0 .non))), some (.l z25.1), some (.f p9.1), some (.f p9.2), none, none, none] rfl ?_
            refine rs_seq ?_
            refine rs_join (Z := ((List D) × ((List (List D) × D)))) (fun z33 => [some (deckT z33.2), some (.f x_net), some (.f r3.1), some (.f r6.1), some (.f (.lst t10)), some (.l (lstOf (ds1.getD 0 .non))), some (.l z33.1), some (.f p9.1), some (.f p9.2), none, none, none]) _ _ rfl ?_ (fun z33 => ?_)
            · refine rs_if ?_
              refine rt_op2B o_eq ?_
              refine rd_var rfl ?_
              intro _
              refine rd_int ?_
              refine ⟨_, _, _, rfl, rfl, rfl, fun t34 => ?_⟩
              refine ⟨_, _, rfl, fun _ => ?_, fun _ => ?_⟩
              · refine rs_setL ?_
                refine rd_op2 o_ix ?_
                refine rd_lst ?_
                refine ra_cons ?_
                refine rd_fz ?_
                refine rd_lst ?_
                refine ra_cons ?_
                refine rd_var rfl ?_
                intro _
                refine ra_cons ?_
                refine rd_var rfl ?_
                intro _
                refine ra_nil ?_
                refine ⟨[p9.1, p9.2], rfl, (by show (2 : Nat) ≤ 1000; decide), ?_⟩
                refine ⟨_, rfl, ?_⟩
                intro _
                refine ra_cons ?_
                refine rd_tup ?_
                refine ra_cons ?_
                refine rd_var rfl ?_
                intro _
                refine ra_nil ?_
                refine ⟨[p9.1], rfl, (by show (1 : Nat) ≤ 1000; decide), ?_⟩
                intro _
                refine ra_cons ?_
                refine rd_tup ?_
                refine ra_cons ?_
                refine rd_var rfl ?_
                intro _
                refine ra_cons ?_
                refine rd_var rfl ?_
                intro _
                refine ra_cons ?_
                refine rd_int ?_
                intro _
                refine ra_nil ?_
                refine ⟨[p9.1, p9.2, (.int 0)], rfl, (by show (3 : Nat) ≤ 1000; decide), ?_⟩
                intro _
                refine ra_cons ?_
                refine rd_non ?_
                intro _
                refine ra_cons ?_
                refine rd_tup ?_
                refine ra_cons ?_
                refine rd_var rfl ?_
                intro _
                refine ra_cons ?_
                refine rd_var rfl ?_
                intro _
                refine ra_nil ?_
                refine ⟨[p9.2, p9.1], rfl, (by show (2 : Nat) ≤ 1000; decide), ?_⟩
                intro _
                refine ra_cons ?_
                refine rd_var rfl ?_
                intro _
                refine ra_nil ?_
                refine ⟨[(.lst [p9.1, p9.2]), (.tup [p9.1]), (.tup [p9.1, p9.2, (.int 0)]), .non, (.tup [p9.2, p9.1]), p9.1], rfl, (by show (6 : Nat) ≤ 1000; decide), ?_⟩
                intro _
                refine rd_call hec hE ?_
                refine ra_cons ?_
                refine rd_ali rfl ?_
                intro _
                refine ra_cons ?_
                refine rd_int ?_
                intro _
                refine ra_nil ?_
                refine ⟨(z25.2, (.int 6)), _, rfl, rfl, rfl, fun r37 => ?_⟩
                refine ⟨_, _, _, rfl, rfl, rfl, fun t36 => ?_⟩
                refine ⟨_, rfl, fun _ => ?_⟩
                refine rd_ali rfl ?_
                refine ⟨6, rfl, fun _ => ?_⟩
                refine rd_var rfl ?_
                refine ⟨_, _, _, rfl, rfl, rfl, fun t35 => ?_⟩
                exact ⟨_, rfl, ⟨.inr rfl, ⟨.inr rfl, ⟨.inr rfl, ⟨.inr rfl, ⟨.inr rfl, ⟨.inr rfl, ⟨.inr rfl, ⟨.inr rfl, ⟨.inr rfl, ⟨.inl rfl, ⟨.inl rfl, ⟨.inl rfl, trivial⟩⟩⟩⟩⟩⟩⟩⟩⟩⟩⟩⟩⟩
              · refine rs_next ?_
                exact ⟨_, rfl, ⟨.inr rfl, ⟨.inr rfl, ⟨.inr rfl, ⟨.inr rfl, ⟨.inr rfl, ⟨.inr rfl, ⟨.inr rfl, ⟨.inr rfl, ⟨.inr rfl, ⟨.inl rfl, ⟨.inl rfl, ⟨.inl rfl, trivial⟩⟩⟩⟩⟩⟩⟩⟩⟩⟩⟩⟩⟩
            · refine rs_at [some (deckT z33.2), some (.f x_net), some (.f r3.1), some (.f r6.1), some (.f (.lst t10)), some (.l (lstOf (ds1.getD 0 .non))), some (.l z33.1), some (.f p9.1), some (.f p9.2), none, none, none] rfl ?_
              refine rs_seq ?_
              refine rs_join (Z := ((List D) × ((List (List D) × D)))) (fun z48 => [some (deckT z48.2), some (.f x_net), some (.f r3.1), some (.f r6.1), some (.f (.lst t10)), some (.l z48.1), some (.l z33.1), some (.f p9.1), some (.f p9.2), none, none, none]) _ _ rfl ?_ (fun z48 => ?_)
              · refine rs_if ?_
                refine rt_op2B o_eq ?_
                refine rd_var rfl ?_
                intro _
                refine rd_int ?_
                refine ⟨_, _, _, rfl, rfl, rfl, fun t49 => ?_⟩
                refine ⟨_, _, rfl, fun _ => ?_, fun _ => ?_⟩
                · refine rs_seq ?_
                  refine rs_set ?_ rfl (hpv _ (by decide))
                  refine rd_op2 o_ix ?_
                  refine rd_lst ?_
                  refine ra_cons ?_
                  refine rd_op2 o_ix ?_
                  refine rd_var rfl ?_
                  intro _
                  refine rd_call hec hE ?_
                  refine ra_cons ?_
                  refine rd_ali rfl ?_
                  intro _
                  refine ra_cons ?_
                  refine rd_cb1 o_len ?_
                  refine rd_var rfl ?_
                  refine ⟨_, _, rfl, rfl, fun t53 => ?_⟩
                  intro _
                  refine ra_nil ?_
                  refine ⟨(z33.2, t53), _, rfl, rfl, rfl, fun r52 => ?_⟩
                  refine ⟨_, _, _, rfl, rfl, rfl, fun t51 => ?_⟩
                  intro _
                  refine ra_cons ?_
                  refine rd_str e_q_new ?_
                  intro _
                  refine ra_nil ?_
                  refine ⟨[t51, (.str q_new)], rfl, (by show (2 : Nat) ≤ 1000; decide), ?_⟩
                  intro _
                  refine rd_call hec hE ?_
                  refine ra_cons ?_
                  refine rd_ali rfl ?_
                  intro _
                  refine ra_cons ?_
                  refine rd_int ?_
                  intro _
                  refine ra_nil ?_
                  refine ⟨(r52.2, (.int 2)), _, rfl, rfl, rfl, fun r54 => ?_⟩
                  refine ⟨_, _, _, rfl, rfl, rfl, fun t50 => ?_⟩
                  refine ⟨_, rfl, (by show (9 : Nat) < 12; decide), ?_⟩
                  refine rs_at [some (deckT r54.2), some (.f x_net), some (.f r3.1), some (.f r6.1), some (.f (.lst t10)), some (.l (lstOf (ds1.getD 0 .non))), some (.l z33.1), some (.f p9.1), some (.f p9.2), some (.f t50), none, none] rfl ?_
                  refine rs_drop ?_
                  refine rd_insert ⟨_, rfl⟩ (fun _ => ?_)
                  refine rd_call hec hE ?_
                  refine ra_cons ?_
                  refine rd_ali rfl ?_
                  intro _
                  refine ra_cons ?_
                  refine rd_op2 o_add ?_
                  refine rd_cb1 o_len ?_
                  refine rd_ali rfl ?_
                  refine ⟨_, _, rfl, rfl, fun t58 => ?_⟩
                  intro _
                  refine rd_int ?_
                  refine ⟨_, _, _, rfl, rfl, rfl, fun t57 => ?_⟩
                  intro _
                  refine ra_nil ?_
                  refine ⟨(r54.2, t57), _, rfl, rfl, rfl, fun r56 => ?_⟩
                  refine ⟨_, rfl, fun _ => ?_⟩
                  refine rd_var rfl ?_
                  refine ⟨_, _, _, rfl, rfl, rfl, fun t55 => ?_⟩
                  exact ⟨_, rfl, ⟨.inr rfl, ⟨.inr rfl, ⟨.inr rfl, ⟨.inr rfl, ⟨.inr rfl, ⟨.inr rfl, ⟨.inr rfl, ⟨.inr rfl, ⟨.inr rfl, ⟨.inl rfl, ⟨.inl rfl, ⟨.inl rfl, trivial⟩⟩⟩⟩⟩⟩⟩⟩⟩⟩⟩⟩⟩
                · refine rs_next ?_
                  exact ⟨_, rfl, ⟨.inr rfl, ⟨.inr rfl, ⟨.inr rfl, ⟨.inr rfl, ⟨.inr rfl, ⟨.inr rfl, ⟨.inr rfl, ⟨.inr rfl, ⟨.inr rfl, ⟨.inl rfl, ⟨.inl rfl, ⟨.inl rfl, trivial⟩⟩⟩⟩⟩⟩⟩⟩⟩⟩⟩⟩⟩
              · refine rs_at [some (deckT z48.2), some (.f x_net), some (.f r3.1), some (.f r6.1), some (.f (.lst t10)), some (.l z48.1), some (.l z33.1), some (.f p9.1), some (.f p9.2), none, none, none] rfl ?_
                refine rs_seq ?_
                refine rs_join (Z := ((List D) × ((List (List D) × D)))) (fun z65 => [some (deckT z65.2), some (.f x_net), some (.f r3.1), some (.f r6.1), some (.f (.lst t10)), some (.l z65.1), some (.l z33.1), some (.f p9.1), some (.f p9.2), none, none, none]) _ _ rfl ?_ (fun z65 => ?_)
                · refine rs_if ?_
                  refine rt_op2B o_eq ?_
                  refine rd_var rfl ?_
                  intro _
                  refine rd_int ?_
                  refine ⟨_, _, _, rfl, rfl, rfl, fun t66 => ?_⟩
                  refine ⟨_, _, rfl, fun _ => ?_, fun _ => ?_⟩
                  · refine rs_drop ?_
                    refine rd_insert ⟨_, rfl⟩ (fun _ => ?_)
                    refine rd_call hec hE ?_
                    refine ra_cons ?_
                    refine rd_ali rfl ?_
                    intro _
                    refine ra_cons ?_
                    refine rd_op2 o_add ?_
                    refine rd_cb1 o_len ?_
                    refine rd_ali rfl ?_
                    refine ⟨_, _, rfl, rfl, fun t70 => ?_⟩
                    intro _
                    refine rd_int ?_
                    refine ⟨_, _, _, rfl, rfl, rfl, fun t69 => ?_⟩
                    intro _
                    refine ra_nil ?_
                    refine ⟨(z48.2, t69), _, rfl, rfl, rfl, fun r68 => ?_⟩
                    refine ⟨_, rfl, fun _ => ?_⟩
                    refine rd_call hec hE ?_
                    refine ra_cons ?_
                    refine rd_ali rfl ?_
                    intro _
                    refine ra_cons ?_
                    refine rd_str e_q_a ?_
                    intro _
                    refine ra_nil ?_
                    refine ⟨(r68.2, (.str q_a)), _, rfl, rfl, rfl, fun r71 => ?_⟩
                    refine ⟨_, _, _, rfl, rfl, rfl, fun t67 => ?_⟩
                    exact ⟨_, rfl, ⟨.inr rfl, ⟨.inr rfl, ⟨.inr rfl, ⟨.inr rfl, ⟨.inr rfl, ⟨.inr rfl, ⟨.inr rfl, ⟨.inr rfl, ⟨.inr rfl, ⟨.inl rfl, ⟨.inl rfl, ⟨.inl rfl, trivial⟩⟩⟩⟩⟩⟩⟩⟩⟩⟩⟩⟩⟩
                  · refine rs_next ?_
                    exact ⟨_, rfl, ⟨.inr rfl, ⟨.inr rfl, ⟨.inr rfl, ⟨.inr rfl, ⟨.inr rfl, ⟨.inr rfl, ⟨.inr rfl, ⟨.inr rfl, ⟨.inr rfl, ⟨.inl rfl, ⟨.inl rfl, ⟨.inl rfl, trivial⟩⟩⟩⟩⟩⟩⟩⟩⟩⟩⟩⟩⟩
                · refine rs_at [some (deckT z65.2), some (.f x_net), some (.f r3.1), some (.f r6.1), some (.f (.lst t10)), some (.l z65.1), some (.l z33.1), some (.f p9.1), some (.f p9.2), none, none, none] rfl ?_
                  refine rs_seq ?_
                  refine rs_join (Z := ((List D) × ((List (List D) × D)))) (fun z82 => [some (deckT z82.2), some (.f x_net), some (.f r3.1), some (.f r6.1), some (.f (.lst t10)), some (.l z65.1), some (.l z82.1), some (.f p9.1), some (.f p9.2), none, none, none]) _ _ rfl ?_ (fun z82 => ?_)
                  · refine rs_if ?_
                    refine rt_op2B o_eq ?_
                    refine rd_var rfl ?_
                    intro _
                    refine rd_int ?_
                    refine ⟨_, _, _, rfl, rfl, rfl, fun t83 => ?_⟩
                    refine ⟨_, _, rfl, fun _ => ?_, fun _ => ?_⟩
                    · refine rs_seq ?_
                      refine rs_set ?_ rfl (hpv _ (by decide))
                      refine rd_op2 o_ix ?_
                      refine rd_lst ?_
                      refine ra_cons ?_
                      refine rd_op2 o_ix ?_
                      refine rd_ali rfl ?_
                      intro _
                      refine rd_call hec hE ?_
                      refine ra_cons ?_
                      refine rd_ali rfl ?_
                      intro _
                      refine ra_cons ?_
                      refine rd_cb1 o_len ?_
                      refine rd_ali rfl ?_
                      refine ⟨_, _, rfl, rfl, fun t87 => ?_⟩
                      intro _
                      refine ra_nil ?_
                      refine ⟨(z65.2, t87), _, rfl, rfl, rfl, fun r86 => ?_⟩
                      refine ⟨_, _, _, rfl, rfl, rfl, fun t85 => ?_⟩
                      intro _
                      refine ra_cons ?_
                      refine rd_tup ?_
                      refine ra_cons ?_
                      refine rd_str e_q_more ?_
                      intro _
                      refine ra_cons ?_
                      refine rd_var rfl ?_
                      intro _
                      refine ra_nil ?_
                      refine ⟨[(.str q_more), p9.2], rfl, (by show (2 : Nat) ≤ 1000; decide), ?_⟩
                      intro _
                      refine ra_nil ?_
                      refine ⟨[t85, (.tup [(.str q_more), p9.2])], rfl, (by show (2 : Nat) ≤ 1000; decide), ?_⟩
                      intro _
                      refine rd_call hec hE ?_
                      refine ra_cons ?_
                      refine rd_ali rfl ?_
                      intro _
                      refine ra_cons ?_
                      refine rd_int ?_
                      intro _
                      refine ra_nil ?_
                      refine ⟨(r86.2, (.int 2)), _, rfl, rfl, rfl, fun r88 => ?_⟩
                      refine ⟨_, _, _, rfl, rfl, rfl, fun t84 => ?_⟩
                      refine ⟨_, rfl, (by show (9 : Nat) < 12; decide), ?_⟩
                      refine rs_at [some (deckT r88.2), some (.f x_net), some (.f r3.1), some (.f r6.1), some (.f (.lst t10)), some (.l z65.1), some (.l z33.1), some (.f p9.1), some (.f p9.2), some (.f t84), none, none] rfl ?_
                      refine rs_drop ?_
                      refine rd_insert ⟨_, rfl⟩ (fun _ => ?_)
                      refine rd_call hec hE ?_
                      refine ra_cons ?_
                      refine rd_ali rfl ?_
                      intro _
                      refine ra_cons ?_
                      refine rd_op2 o_add ?_
                      refine rd_cb1 o_len ?_
                      refine rd_ali rfl ?_
                      refine ⟨_, _, rfl, rfl, fun t92 => ?_⟩
                      intro _
                      refine rd_int ?_
                      refine ⟨_, _, _, rfl, rfl, rfl, fun t91 => ?_⟩
                      intro _
                      refine ra_nil ?_
                      refine ⟨(r88.2, t91), _, rfl, rfl, rfl, fun r90 => ?_⟩
                      refine ⟨_, rfl, fun _ => ?_⟩
                      refine rd_var rfl ?_
                      refine ⟨_, _, _, rfl, rfl, rfl, fun t89 => ?_⟩
                      exact ⟨_, rfl, ⟨.inr rfl, ⟨.inr rfl, ⟨.inr rfl, ⟨.inr rfl, ⟨.inr rfl, ⟨.inr rfl, ⟨.inr rfl, ⟨.inr rfl, ⟨.inr rfl, ⟨.inl rfl, ⟨.inl rfl, ⟨.inl rfl, trivial⟩⟩⟩⟩⟩⟩⟩⟩⟩⟩⟩⟩⟩
                    · refine rs_next ?_
                      exact ⟨_, rfl, ⟨.inr rfl, ⟨.inr rfl, ⟨.inr rfl, ⟨.inr rfl, ⟨.inr rfl, ⟨.inr rfl, ⟨.inr rfl, ⟨.inr rfl, ⟨.inr rfl, ⟨.inl rfl, ⟨.inl rfl, ⟨.inl rfl, trivial⟩⟩⟩⟩⟩⟩⟩⟩⟩⟩⟩⟩⟩
                  · refine rs_at [some (deckT z82.2), some (.f x_net), some (.f r3.1), some (.f r6.1), some (.f (.lst t10)), some (.l z65.1), some (.l z82.1), some (.f p9.1), some (.f p9.2), none, none, none] rfl ?_
                    refine rs_seq ?_
                    refine rs_join (Z := (List D)) (fun z95 => [some (deckT z82.2), some (.f x_net), some (.f r3.1), some (.f r6.1), some (.f (.lst t10)), some (.l z65.1), some (.l z95), some (.f p9.1), some (.f p9.2), none, none, none]) _ _ rfl ?_ (fun z95 => ?_)
                    · refine rs_if ?_
                      refine rt_op2B o_eq ?_
                      refine rd_var rfl ?_
                      intro _
                      refine rd_int ?_
                      refine ⟨_, _, _, rfl, rfl, rfl, fun t96 => ?_⟩
                      refine ⟨_, _, rfl, fun _ => ?_, fun _ => ?_⟩
                      · refine rs_drop ?_
                        refine rd_popAt ?_
                        refine rd_ali rfl ?_
                        refine ⟨6, _, rfl, rfl, fun _ => ?_⟩
                        refine rd_var rfl ?_
                        refine ⟨_, _, _, rfl, rfl, rfl, fun t97 => ?_⟩
                        exact ⟨_, rfl, ⟨.inr rfl, ⟨.inr rfl, ⟨.inr rfl, ⟨.inr rfl, ⟨.inr rfl, ⟨.inr rfl, ⟨.inr rfl, ⟨.inr rfl, ⟨.inr rfl, ⟨.inl rfl, ⟨.inl rfl, ⟨.inl rfl, trivial⟩⟩⟩⟩⟩⟩⟩⟩⟩⟩⟩⟩⟩
                      · refine rs_next ?_
                        exact ⟨_, rfl, ⟨.inr rfl, ⟨.inr rfl, ⟨.inr rfl, ⟨.inr rfl, ⟨.inr rfl, ⟨.inr rfl, ⟨.inr rfl, ⟨.inr rfl, ⟨.inr rfl, ⟨.inl rfl, ⟨.inl rfl, ⟨.inl rfl, trivial⟩⟩⟩⟩⟩⟩⟩⟩⟩⟩⟩⟩⟩
                    · refine rs_at [some (deckT z82.2), some (.f x_net), some (.f r3.1), some (.f r6.1), some (.f (.lst t10)), some (.l z65.1), some (.l z95), some (.f p9.1), some (.f p9.2), none, none, none] rfl ?_
                      refine rs_seq ?_
                      refine rs_join (Z := ((List D) × ((List (List D) × D)))) (fun z104 => [some (deckT z104.2), some (.f x_net), some (.f r3.1), some (.f r6.1), some (.f (.lst t10)), some (.l z104.1), some (.l z95), some (.f p9.1), some (.f p9.2), none, none, none]) _ _ rfl ?_ (fun z104 => ?_)
                      · refine rs_if ?_
                        refine rt_and (Z := Unit) ?_
                        refine rt_op2B o_eq ?_
                        refine rd_var rfl ?_
                        intro _
                        refine rd_int ?_
                        refine ⟨_, _, _, rfl, rfl, rfl, fun t106 => ?_⟩
                        refine ⟨fun z => [some (deckT z82.2), some (.f x_net), some (.f r3.1), some (.f r6.1), some (.f (.lst t10)), some (.l z65.1), some (.l z95), some (.f p9.1), some (.f p9.2), none, none, none], (), _, _, rfl, ⟨.inr rfl, ⟨.inr rfl, ⟨.inr rfl, ⟨.inr rfl, ⟨.inr rfl, ⟨.inr rfl, ⟨.inr rfl, ⟨.inr rfl, ⟨.inr rfl, ⟨.inl rfl, ⟨.inl rfl, ⟨.inl rfl, trivial⟩⟩⟩⟩⟩⟩⟩⟩⟩⟩⟩⟩, fun _ => ?_, fun p105 => ?_⟩
                        · refine rt_op2B o_ne ?_
                          refine rd_ali rfl ?_
                          intro _
                          refine rd_lst ?_
                          refine ra_nil ?_
                          refine ⟨[], rfl, (by show (0 : Nat) ≤ 1000; decide), ?_⟩
                          refine ⟨_, _, _, rfl, rfl, rfl, fun t107 => ?_⟩
                          exact ⟨_, rfl, ⟨.inr rfl, ⟨.inr rfl, ⟨.inr rfl, ⟨.inr rfl, ⟨.inr rfl, ⟨.inr rfl, ⟨.inr rfl, ⟨.inr rfl, ⟨.inr rfl, ⟨.inl rfl, ⟨.inl rfl, ⟨.inl rfl, trivial⟩⟩⟩⟩⟩⟩⟩⟩⟩⟩⟩⟩⟩
                        · refine ⟨_, _, rfl, fun _ => ?_, fun _ => ?_⟩
                          · refine rs_drop ?_
                            refine rd_popAt ?_
                            refine rd_ali rfl ?_
                            refine ⟨5, _, rfl, rfl, fun _ => ?_⟩
                            refine rd_call hec hE ?_
                            refine ra_cons ?_
                            refine rd_ali rfl ?_
                            intro _
                            refine ra_cons ?_
                            refine rd_cb1 o_len ?_
                            refine rd_ali rfl ?_
                            refine ⟨_, _, rfl, rfl, fun t110 => ?_⟩
                            intro _
                            refine ra_nil ?_
                            refine ⟨(z82.2, t110), _, rfl, rfl, rfl, fun r109 => ?_⟩
                            refine ⟨_, _, _, rfl, rfl, rfl, fun t108 => ?_⟩
                            exact ⟨_, rfl, ⟨.inr rfl, ⟨.inr rfl, ⟨.inr rfl, ⟨.inr rfl, ⟨.inr rfl, ⟨.inr rfl, ⟨.inr rfl, ⟨.inr rfl, ⟨.inr rfl, ⟨.inl rfl, ⟨.inl rfl, ⟨.inl rfl, trivial⟩⟩⟩⟩⟩⟩⟩⟩⟩⟩⟩⟩⟩
                          · refine rs_next ?_
                            exact ⟨_, rfl, ⟨.inr rfl, ⟨.inr rfl, ⟨.inr rfl, ⟨.inr rfl, ⟨.inr rfl, ⟨.inr rfl, ⟨.inr rfl, ⟨.inr rfl, ⟨.inr rfl, ⟨.inl rfl, ⟨.inl rfl, ⟨.inl rfl, trivial⟩⟩⟩⟩⟩⟩⟩⟩⟩⟩⟩⟩⟩
                      · refine rs_at [some (deckT z104.2), some (.f x_net), some (.f r3.1), some (.f r6.1), some (.f (.lst t10)), some (.l z104.1), some (.l z95), some (.f p9.1), some (.f p9.2), none, none, none] rfl ?_
                        refine rs_seq ?_
                        refine rs_if ?_
                        refine rt_op2B o_eq ?_
                        refine rd_var rfl ?_
                        intro _
                        refine rd_int ?_
                        refine ⟨_, _, _, rfl, rfl, rfl, fun t111 => ?_⟩
                        refine ⟨_, _, rfl, fun _ => ?_, fun _ => ?_⟩
                        · refine rs_seq ?_
                          refine rs_set ?_ rfl (hpv _ (by decide))
                          refine rd_fz ?_
                          refine rd_lst ?_
                          refine ra_cons ?_
                          refine rd_fz ?_
                          refine rd_lst ?_
                          refine ra_cons ?_
                          refine rd_frz rfl ?_
                          intro _
                          refine ra_cons ?_
                          refine rd_frz rfl ?_
                          intro _
                          refine ra_nil ?_
                          refine ⟨[(.lst z104.1), (.lst z95)], rfl, (by show (2 : Nat) ≤ 1000; decide), ?_⟩
                          refine ⟨_, rfl, ?_⟩
                          intro _
                          refine ra_cons ?_
                          refine rd_tup ?_
                          refine ra_cons ?_
                          refine rd_var rfl ?_
                          intro _
                          refine ra_nil ?_
                          refine ⟨[(.lst z104.1)], rfl, (by show (1 : Nat) ≤ 1000; decide), ?_⟩
                          intro _
                          refine ra_cons ?_
                          refine rd_tup ?_
                          refine ra_cons ?_
                          refine rd_var rfl ?_
                          intro _
                          refine ra_cons ?_
                          refine rd_var rfl ?_
                          intro _
                          refine ra_cons ?_
                          refine rd_int ?_
                          intro _
                          refine ra_nil ?_
                          refine ⟨[(.lst z104.1), (.lst z95), (.int 0)], rfl, (by show (3 : Nat) ≤ 1000; decide), ?_⟩
                          intro _
                          refine ra_cons ?_
                          refine rd_tup ?_
                          refine ra_cons ?_
                          refine rd_tupL ?_
                          refine rd_var rfl ?_
                          refine ⟨_, _, rfl, rfl, fun t112 => ?_⟩
                          intro _
                          refine ra_cons ?_
                          refine rd_var rfl ?_
                          intro _
                          refine ra_nil ?_
                          refine ⟨[t112, (.lst z95)], rfl, (by show (2 : Nat) ≤ 1000; decide), ?_⟩
                          intro _
                          refine ra_nil ?_
                          refine ⟨[(.lst [(.lst z104.1), (.lst z95)]), (.tup [(.lst z104.1)]), (.tup [(.lst z104.1), (.lst z95), (.int 0)]), (.tup [t112, (.lst z95)])], rfl, (by show (4 : Nat) ≤ 1000; decide), ?_⟩
                          refine ⟨_, rfl, ?_⟩
                          refine ⟨_, rfl, (by show (10 : Nat) < 12; decide), ?_⟩
                          refine rs_at [some (deckT z104.2), some (.f x_net), some (.f r3.1), some (.f r6.1), some (.f (.lst t10)), some (.f (.lst z104.1)), some (.f (.lst z95)), some (.f p9.1), some (.f p9.2), none, some (.f (.lst [(.lst [(.lst z104.1), (.lst z95)]), (.tup [(.lst z104.1)]), (.tup [(.lst z104.1), (.lst z95), (.int 0)]), (.tup [t112, (.lst z95)])])), none] rfl ?_
                          refine rs_seq ?_
                          refine rs_set ?_ rfl (hpv _ (by decide))
                          refine rd_fz ?_
                          refine rd_op2L o_cat ?_
                          refine rd_var rfl ?_
                          intro _
                          refine rd_lst ?_
                          refine ra_cons ?_
                          refine rd_tup ?_
                          refine ra_cons ?_
                          refine rd_var rfl ?_
                          intro _
                          refine ra_cons ?_
                          refine rd_tupL ?_
                          refine rd_var rfl ?_
                          refine ⟨_, _, rfl, rfl, fun t114 => ?_⟩
                          intro _
                          refine ra_nil ?_
                          refine ⟨[(.lst z104.1), t114], rfl, (by show (2 : Nat) ≤ 1000; decide), ?_⟩
                          intro _
                          refine ra_cons ?_
                          refine rd_tup ?_
                          refine ra_cons ?_
                          refine rd_var rfl ?_
                          intro _
                          refine ra_cons ?_
                          refine rd_var rfl ?_
                          intro _
                          refine ra_nil ?_
                          refine ⟨[(.lst z95), (.lst z104.1)], rfl, (by show (2 : Nat) ≤ 1000; decide), ?_⟩
                          intro _
                          refine ra_cons ?_
                          refine rd_tup ?_
                          refine ra_cons ?_
                          refine rd_non ?_
                          intro _
                          refine ra_cons ?_
                          refine rd_var rfl ?_
                          intro _
                          refine ra_nil ?_
                          refine ⟨[.non, (.lst z95)], rfl, (by show (2 : Nat) ≤ 1000; decide), ?_⟩
                          intro _
                          refine ra_cons ?_
                          refine rd_tup ?_
                          refine ra_cons ?_
                          refine rd_var rfl ?_
                          intro _
                          refine ra_cons ?_
                          refine rd_non ?_
                          intro _
                          refine ra_nil ?_
                          refine ⟨[(.lst z104.1), .non], rfl, (by show (2 : Nat) ≤ 1000; decide), ?_⟩
                          intro _
                          refine ra_nil ?_
                          refine ⟨[(.tup [(.lst z104.1), t114]), (.tup [(.lst z95), (.lst z104.1)]), (.tup [.non, (.lst z95)]), (.tup [(.lst z104.1), .non])], rfl, (by show (4 : Nat) ≤ 1000; decide), ?_⟩
                          refine ⟨_, _, _, rfl, rfl, rfl, fun t113 => ?_⟩
                          refine ⟨_, rfl, ?_⟩
                          refine ⟨_, rfl, (by show (10 : Nat) < 12; decide), ?_⟩
                          refine rs_at [some (deckT z104.2), some (.f x_net), some (.f r3.1), some (.f r6.1), some (.f (.lst t10)), some (.f (.lst z104.1)), some (.f (.lst z95)), some (.f p9.1), some (.f p9.2), none, some (.f (.lst t113)), none] rfl ?_
                          refine rs_seq ?_
                          refine rs_set ?_ rfl (hpv _ (by decide))
                          refine rd_fz ?_
                          refine rd_op2L o_cat ?_
                          refine rd_var rfl ?_
                          intro _
                          refine rd_lst ?_
                          refine ra_cons ?_
                          refine rd_tup ?_
                          refine ra_cons ?_
                          refine rd_jn ?_
                          refine rd_str e_qx_ ?_
                          refine ⟨_, _, rfl, rfl, fun t117 _ => ?_⟩
                          refine rd_var rfl ?_
                          refine ⟨_, _, _, rfl, rfl, rfl, fun t116 => ?_⟩
                          intro _
                          refine ra_cons ?_
                          refine rd_var rfl ?_
                          intro _
                          refine ra_nil ?_
                          refine ⟨[t116, (.lst z95)], rfl, (by show (2 : Nat) ≤ 1000; decide), ?_⟩
                          intro _
                          refine ra_cons ?_
                          refine rd_tup ?_
                          refine ra_cons ?_
                          refine rd_fz ?_
                          refine rd_dnewK ?_
                          refine ⟨_, rfl, ?_⟩
                          intro _
                          refine ra_cons ?_
                          refine rd_var rfl ?_
                          intro _
                          refine ra_nil ?_
                          refine ⟨[(.dct false []), (.lst z95)], rfl, (by show (2 : Nat) ≤ 1000; decide), ?_⟩
                          intro _
                          refine ra_cons ?_
                          refine rd_tup ?_
                          refine ra_cons ?_
                          refine rd_var rfl ?_
                          intro _
                          refine ra_cons ?_
                          refine rd_fz ?_
                          refine rd_dnewK ?_
                          refine ⟨_, rfl, ?_⟩
                          intro _
                          refine ra_nil ?_
                          refine ⟨[(.lst z104.1), (.dct false [])], rfl, (by show (2 : Nat) ≤ 1000; decide), ?_⟩
                          intro _
                          refine ra_cons ?_
                          refine rd_tup ?_
                          refine ra_cons ?_
                          refine rd_var rfl ?_
                          intro _
                          refine ra_cons ?_
                          refine rd_jn ?_
                          refine rd_str e_qx_ ?_
                          refine ⟨_, _, rfl, rfl, fun t119 _ => ?_⟩
                          refine rd_var rfl ?_
                          refine ⟨_, _, _, rfl, rfl, rfl, fun t118 => ?_⟩
                          intro _
                          refine ra_nil ?_
                          refine ⟨[(.lst z104.1), t118], rfl, (by show (2 : Nat) ≤ 1000; decide), ?_⟩
                          intro _
                          refine ra_nil ?_
                          refine ⟨[(.tup [t116, (.lst z95)]), (.tup [(.dct false []), (.lst z95)]), (.tup [(.lst z104.1), (.dct false [])]), (.tup [(.lst z104.1), t118])], rfl, (by show (4 : Nat) ≤ 1000; decide), ?_⟩
                          refine ⟨_, _, _, rfl, rfl, rfl, fun t115 => ?_⟩
                          refine ⟨_, rfl, ?_⟩
                          refine ⟨_, rfl, (by show (10 : Nat) < 12; decide), ?_⟩
                          refine rs_at [some (deckT z104.2), some (.f x_net), some (.f r3.1), some (.f r6.1), some (.f (.lst t10)), some (.f (.lst z104.1)), some (.f (.lst z95)), some (.f p9.1), some (.f p9.2), none, some (.f (.lst t115)), none] rfl ?_
                          refine rs_ret ?_
                          refine rd_op2 o_ix ?_
                          refine rd_var rfl ?_
                          intro _
                          refine rd_call hec hE ?_
                          refine ra_cons ?_
                          refine rd_ali rfl ?_
                          intro _
                          refine ra_cons ?_
                          refine rd_int ?_
                          intro _
                          refine ra_nil ?_
                          refine ⟨(z104.2, (.int 12)), _, rfl, rfl, rfl, fun r121 => ?_⟩
                          refine ⟨_, _, _, rfl, rfl, rfl, fun t120 => ?_⟩
                          refine ⟨_, rfl, ?_⟩
                          exact ⟨_, rfl, rfl, ⟨rfl, by decide, trivial⟩⟩
                        · refine rs_next ?_
                          refine rs_at [some (deckT z104.2), some (.f x_net), some (.f r3.1), some (.f r6.1), some (.f (.lst t10)), some (.l z104.1), some (.l z95), some (.f p9.1), some (.f p9.2), none, none, none] rfl ?_
                          refine rs_ret ?_
                          refine rd_tup ?_
                          refine ra_cons ?_
                          refine rd_frz rfl ?_
                          intro _
                          refine ra_cons ?_
                          refine rd_frz rfl ?_
                          intro _
                          refine ra_nil ?_
                          refine ⟨[(.lst z104.1), (.lst z95)], rfl, (by show (2 : Nat) ≤ 1000; decide), ?_⟩
                          refine ⟨_, rfl, ?_⟩
                          exact ⟨_, rfl, rfl, ⟨rfl, by decide, trivial⟩⟩
theorem ok_law (T : Tx K mg) : FnOk P w K mg base CX0 29 T.a_law T.d_law ["script"] (spOf (A := D) (R := D) EC.ec (fun a => [.f a]) (fun a => m_law a) (fun r => .f r) (fun r => [none])) := by
  refine T.F_law.ok sc_law (fun vs H Q E h => ?_) (fun cdv A outer s H vs Q E hr h => ?_)
  · obtain ⟨a, G, w, _, _, hl, _⟩ := h; exact hl
  · refine ⟨_, (pss_cons (ps_set (i := 1) sc_law.nd rfl (by first | exact .inl rfl | exact .inr rfl) (pe_call (ok__law_deck T) (hr.mono (by decide)) (by rfl) T.g__law_deck T.F__law_deck.kp T.b__law_deck .nil (show Passes CX0 _ E from pass0) (pa_cons (pv 0) pa_nil))) (pss_cons (ps_for PassesOwn.never rfl (pi_range1 (by rfl) T.n_range (pa_cons pe_int pa_nil)) (pg_name (i := 2) sc_law.nd rfl (by first | exact .inl rfl | exact .inr rfl)) (pss_cons (ps_set (i := 5) sc_law.nd rfl (by first | exact .inl rfl | exact .inr rfl) (pe_call (ok__law_net T) (hr.mono (by decide)) (by rfl) T.g__law_net T.F__law_net.kp T.b__law_net .nil (show Passes CX0 _ E from pass0) (pa_cons (pv 1) pa_nil))) (pss_cons (ps_if (pw_or (pt_cmpR op_notBl (pe_call (ok_is_net T) (hr.mono (by decide)) (by rfl) T.g_is_net T.F_is_net.kp T.b_is_net .nil (show Passes CX0 _ E from pass0) (pa_cons (pv 5) pa_nil)) pe_bl (nomark _)) (pw_or1 (pt_not (pt_val (pe_call (ok__law_right T) (hr.mono (by decide)) (by rfl) T.g__law_right T.F__law_right.kp T.b__law_right .nil (show Passes CX0 _ E from pass0) (pa_cons (pv 5) pa_nil)))))).pt (pss_one (ps_ret pe_bl)) pss_nil) (pss_cons (ps_if (pw_or (pt_not (pt_val (pe_call (ok__law_right T) (hr.mono (by decide)) (by rfl) T.g__law_right T.F__law_right.kp T.b__law_right .nil (show Passes CX0 _ E from pass0) (pa_cons (pe_call (ok__law_fitting T) (hr.mono (by decide)) (by rfl) T.g__law_fitting T.F__law_fitting.kp T.b__law_fitting .nil (show Passes CX0 _ E from pass0) (pa_cons (pv 1) pa_nil)) pa_nil)))) (pw_or1 (pt_not (pt_val (pe_call (ok__law_right T) (hr.mono (by decide)) (by rfl) T.g__law_right T.F__law_right.kp T.b__law_right .nil (show Passes CX0 _ E from pass0) (pa_cons (pe_call (ok__law_fitting T) (hr.mono (by decide)) (by rfl) T.g__law_fitting T.F__law_fitting.kp T.b__law_fitting .nil (show Passes CX0 _ E from pass0) (pa_cons (pv 1) pa_nil)) pa_nil)))))).pt (pss_one (ps_ret pe_bl)) pss_nil) (pss_one (ps_for PassesOwn.never rfl (pi_range1 (by rfl) T.n_range (pa_cons pe_int pa_nil)) (pg_name (i := 6) sc_law.nd rfl (by first | exact .inl rfl | exact .inr rfl)) (pss_one (ps_if (pt_not (pt_val (pe_call (ok__law_right T) (hr.mono (by decide)) (by rfl) T.g__law_right T.F__law_right.kp T.b__law_right .nil (show Passes CX0 _ E from pass0) (pa_cons (pe_call (ok__law_changed T) (hr.mono (by decide)) (by rfl) T.g__law_changed T.F__law_changed.kp T.b__law_changed .nil (show Passes CX0 _ E from pass0) (pa_cons (pv 1) (pa_cons (pv 5) pa_nil))) pa_nil)))) (pss_one (ps_ret pe_bl)) pss_nil)))))))) (pss_cons (ps_set (i := 3) sc_law.nd rfl (by first | exact .inl rfl | exact .inr rfl) (pe_lst (pa_cons pe_non (pa_cons pe_int (pa_cons pe_str (pa_cons (pe_tup pa_nil) (pa_cons (pe_lst pa_nil) (pa_cons pe_dnewK (pa_cons (pe_tup (pa_cons (pe_lst pa_nil) (pa_cons (pe_lst pa_nil) pa_nil))) (pa_cons (pe_tup (pa_cons (pe_lst pa_nil) (pa_cons (pe_lst (pa_cons (pe_tup (pa_cons pe_str (pa_cons (pe_tup (pa_cons pe_str (pa_cons pe_str pa_nil))) pa_nil))) pa_nil)) pa_nil))) pa_nil)))))))))) (pss_cons (ps_set (i := 3) sc_law.nd rfl (by first | exact .inl rfl | exact .inr rfl) (pe_op op_catR (pv 3) (pe_lc (own := [("deep", 7)]) rfl (by exact sc_law.nd) (pi_listK (Kf := K) (by rfl) (pe_lst (pa_cons pe_int (pa_cons pe_int pa_nil)))) blk_law_0 (fun _ _ _ _ _ => (pg_name (i := 7) sc_law.nd rfl (by first | exact .inl rfl | exact .inr rfl))) (fun _ _ _ _ _ => pts_nil) (fun _ _ _ _ _ => (pe_tup (pa_cons (pe_lst pa_nil) (pa_cons (pe_lst (pa_cons (pe_tup (pa_cons pe_str (pa_cons (pe_call (ok__law_deep_rule T) (hr.mono (by decide)) (by rfl) T.g__law_deep_rule T.F__law_deep_rule.kp T.b__law_deep_rule .nil (show Passes CX0 _ E from pass0) (pa_cons pe_str (pa_cons (pv 7) pa_nil))) pa_nil))) pa_nil)) pa_nil))))))) (pss_cons (ps_for PassesOwn.never rfl (pi_listK (Kf := K) (by rfl) (pe_op op_catR (pv 3) (pe_lst (pa_cons (pe_tup (pa_cons (pe_lst pa_nil) (pa_cons (pe_lst (pa_cons (pe_tup (pa_cons pe_str (pa_cons (pe_tup pa_nil) pa_nil))) pa_nil)) pa_nil))) (pa_cons (pe_tup (pa_cons (pe_lst (pa_cons pe_str pa_nil)) (pa_cons (pe_lst pa_nil) pa_nil))) (pa_cons pe_bl pa_nil)))))) (pg_name (i := 4) sc_law.nd rfl (by first | exact .inl rfl | exact .inr rfl)) (pss_one (ps_if (pt_not (pt_val (pe_call (ok__law_right T) (hr.mono (by decide)) (by rfl) T.g__law_right T.F__law_right.kp T.b__law_right .nil (show Passes CX0 _ E from pass0) (pa_cons (pv 4) pa_nil)))) (pss_one (ps_ret pe_bl)) pss_nil))) (pss_one (ps_ret pe_bl))))))), ?_⟩
    refine fn_body (K := K) [] (fun _ => by show (1 : Nat) ≤ 8; decide) (fun _ => by show ∀ k ∈ ([] : List Nat), k < 1; decide) h (fun F x_script hec hE hK hpv => ?_)
    skip
    show RS F [] [some (.f x_script), none, none, none, none, none, none, none] (m_law x_script) _ _ _
    unfold m_law
    refine rs_seq ?_
    refine rs_set ?_ rfl (hpv _ (by decide))
    refine rd_call hec hE ?_
    refine ra_cons ?_
    refine rd_var rfl ?_
    intro _
    refine ra_nil ?_
    refine ⟨(x_script), _, rfl, rfl, rfl, fun r1 => ?_⟩
    refine ⟨_, rfl, (by show (1 : Nat) < 8; decide), ?_⟩
    refine rs_at [some (.f x_script), some (deckT r1), none, none, none, none, none, none] rfl ?_
    refine rs_seq ?_
    refine rs_for (Z := ((List (List D) × D))) (R' := D) [2] ?_
    refine ri_range1 ?_
    refine rd_int ?_
    refine ⟨_, _, rfl, rfl, fun ds4 => ?_⟩
    refine ⟨fun z3 => [some (.f x_script), some (deckT z3), none, none, none, none, none, none], _, _, _, rfl, ⟨.inr rfl, ⟨.inr rfl, ⟨.inl rfl, ⟨.inl rfl, ⟨.inl rfl, ⟨.inl rfl, ⟨.inl rfl, ⟨.inl rfl, trivial⟩⟩⟩⟩⟩⟩⟩⟩, fun _ => (by first | exact trivial | rfl | exact ⟨rfl, rfl⟩), fun z3 d2 => ?_, fun z3 => ?_⟩
    · refine rg_name (by show (2 : Nat) < 8; decide) rfl (hpv _ (by decide)) ?_
      refine rs_at [some (.f x_script), some (deckT z3), some (.f d2), none, none, none, none, none] rfl ?_
      refine rs_seq ?_
      refine rs_set ?_ rfl (hpv _ (by decide))
      refine rd_call hec hE ?_
      refine ra_cons ?_
      refine rd_ali rfl ?_
      intro _
      refine ra_nil ?_
      refine ⟨(z3), _, rfl, rfl, rfl, fun r5 => ?_⟩
      refine ⟨_, rfl, (by show (5 : Nat) < 8; decide), ?_⟩
      refine rs_at [some (.f x_script), some (deckT r5.2), some (.f d2), none, none, some (.f r5.1), none, none] rfl ?_
      refine rs_seq ?_
      refine rs_if ?_
      refine rt_or (Z := Unit) ?_
      refine rt_op2B o_notb ?_
      refine rd_call hec hE ?_
      refine ra_cons ?_
      refine rd_var rfl ?_
      intro _
      refine ra_nil ?_
      refine ⟨(r5.1), _, rfl, rfl, rfl, fun r8 => ?_⟩
      intro _
      refine rd_bl ?_
      refine ⟨_, _, _, rfl, rfl, rfl, fun t7 => ?_⟩
      refine ⟨fun z => [some (.f x_script), some (deckT r5.2), some (.f d2), none, none, some (.f r5.1), none, none], (), _, _, rfl, ⟨.inr rfl, ⟨.inr rfl, ⟨.inr rfl, ⟨.inl rfl, ⟨.inl rfl, ⟨.inr rfl, ⟨.inl rfl, ⟨.inl rfl, trivial⟩⟩⟩⟩⟩⟩⟩⟩, fun _ => ?_, fun p6 => ?_⟩
      · refine rt_not ?_
        refine rt_val ?_
        refine rd_call hec hE ?_
        refine ra_cons ?_
        refine rd_var rfl ?_
        intro _
        refine ra_nil ?_
        refine ⟨(r5.1), _, rfl, rfl, rfl, fun r10 => ?_⟩
        refine ⟨_, _, rfl, rfl, fun t9 => ?_⟩
        exact ⟨_, rfl, ⟨.inr rfl, ⟨.inr rfl, ⟨.inr rfl, ⟨.inl rfl, ⟨.inl rfl, ⟨.inr rfl, ⟨.inl rfl, ⟨.inl rfl, trivial⟩⟩⟩⟩⟩⟩⟩⟩⟩
      · refine ⟨_, _, rfl, fun _ => ?_, fun _ => ?_⟩
        · refine rs_ret ?_
          refine rd_bl ?_
          refine ⟨_, rfl, ?_⟩
          exact ⟨_, rfl, ⟨_, rfl, rfl, trivial⟩⟩
        · refine rs_next ?_
          refine rs_at [some (.f x_script), some (deckT r5.2), some (.f d2), none, none, some (.f r5.1), none, none] rfl ?_
          refine rs_seq ?_
          refine rs_if ?_
          refine rt_or (Z := ((List (List D) × D))) ?_
          refine rt_not ?_
          refine rt_val ?_
          refine rd_call hec hE ?_
          refine ra_cons ?_
          refine rd_call hec hE ?_
          refine ra_cons ?_
          refine rd_ali rfl ?_
          intro _
          refine ra_nil ?_
          refine ⟨(r5.2), _, rfl, rfl, rfl, fun r14 => ?_⟩
          intro _
          refine ra_nil ?_
          refine ⟨(r14.1), _, rfl, rfl, rfl, fun r13 => ?_⟩
          refine ⟨_, _, rfl, rfl, fun t12 => ?_⟩
          refine ⟨fun z => [some (.f x_script), some (deckT z), some (.f d2), none, none, some (.f r5.1), none, none], r14.2, _, _, rfl, ⟨.inr rfl, ⟨.inr rfl, ⟨.inr rfl, ⟨.inl rfl, ⟨.inl rfl, ⟨.inr rfl, ⟨.inl rfl, ⟨.inl rfl, trivial⟩⟩⟩⟩⟩⟩⟩⟩, fun _ => ?_, fun p11 => ?_⟩
          · refine rt_not ?_
            refine rt_val ?_
            refine rd_call hec hE ?_
            refine ra_cons ?_
            refine rd_call hec hE ?_
            refine ra_cons ?_
            refine rd_ali rfl ?_
            intro _
            refine ra_nil ?_
            refine ⟨(r14.2), _, rfl, rfl, rfl, fun r17 => ?_⟩
            intro _
            refine ra_nil ?_
            refine ⟨(r17.1), _, rfl, rfl, rfl, fun r16 => ?_⟩
            refine ⟨_, _, rfl, rfl, fun t15 => ?_⟩
            exact ⟨_, rfl, ⟨.inr rfl, ⟨.inr rfl, ⟨.inr rfl, ⟨.inl rfl, ⟨.inl rfl, ⟨.inr rfl, ⟨.inl rfl, ⟨.inl rfl, trivial⟩⟩⟩⟩⟩⟩⟩⟩⟩
          · refine ⟨_, _, rfl, fun _ => ?_, fun _ => ?_⟩
            · refine rs_ret ?_
              refine rd_bl ?_
              refine ⟨_, rfl, ?_⟩
              exact ⟨_, rfl, ⟨_, rfl, rfl, trivial⟩⟩
            · refine rs_next ?_
              refine rs_at [some (.f x_script), some (deckT p11.2), some (.f d2), none, none, some (.f r5.1), none, none] rfl ?_
              refine rs_for (Z := ((List (List D) × D))) (R' := D) [6] ?_
              refine ri_range1 ?_
              refine rd_int ?_
              refine ⟨_, _, rfl, rfl, fun ds20 => ?_⟩
              refine ⟨fun z19 => [some (.f x_script), some (deckT z19), some (.f d2), none, none, some (.f r5.1), none, none], _, _, _, rfl, ⟨.inr rfl, ⟨.inr rfl, ⟨.inr rfl, ⟨.inl rfl, ⟨.inl rfl, ⟨.inr rfl, ⟨.inl rfl, ⟨.inl rfl, trivial⟩⟩⟩⟩⟩⟩⟩⟩, fun _ => (by first | exact trivial | rfl | exact ⟨rfl, rfl⟩), fun z19 d18 => ?_, fun z19 => ?_⟩
              · refine rg_name (by show (6 : Nat) < 8; decide) rfl (hpv _ (by decide)) ?_
                refine rs_at [some (.f x_script), some (deckT z19), some (.f d2), none, none, some (.f r5.1), some (.f d18), none] rfl ?_
                refine rs_if ?_
                refine rt_not ?_
                refine rt_val ?_
                refine rd_call hec hE ?_
                refine ra_cons ?_
                refine rd_call hec hE ?_
                refine ra_cons ?_
                refine rd_ali rfl ?_
                intro _
                refine ra_cons ?_
                refine rd_var rfl ?_
                intro _
                refine ra_nil ?_
                refine ⟨(z19, r5.1), _, rfl, rfl, rfl, fun r23 => ?_⟩
                intro _
                refine ra_nil ?_
                refine ⟨(r23.1), _, rfl, rfl, rfl, fun r22 => ?_⟩
                refine ⟨_, _, rfl, rfl, fun t21 => ?_⟩
                refine ⟨_, _, rfl, fun _ => ?_, fun _ => ?_⟩
                · refine rs_ret ?_
                  refine rd_bl ?_
                  refine ⟨_, rfl, ?_⟩
                  exact ⟨_, rfl, ⟨_, rfl, ⟨_, rfl, rfl, trivial⟩⟩⟩
                · refine rs_next ?_
                  exact ⟨_, rfl, ⟨.inr rfl, ⟨.inr rfl, ⟨.inr rfl, ⟨.inl rfl, ⟨.inl rfl, ⟨.inr rfl, ⟨.inl rfl, ⟨.inl rfl, trivial⟩⟩⟩⟩⟩⟩⟩⟩⟩
              · exact ⟨_, rfl, ⟨.inr rfl, ⟨.inr rfl, ⟨.inl rfl, ⟨.inl rfl, ⟨.inl rfl, ⟨.inl rfl, ⟨.inl rfl, ⟨.inl rfl, trivial⟩⟩⟩⟩⟩⟩⟩⟩⟩
    · refine rs_at [some (.f x_script), some (deckT z3), none, none, none, none, none, none] rfl ?_
      refine rs_onN ?_
      refine rs_seq ?_
      refine rs_set ?_ rfl (hpv _ (by decide))
      refine rd_fz ?_
      refine rd_lst ?_
      refine ra_cons ?_
      refine rd_non ?_
      intro _
      refine ra_cons ?_
      refine rd_int ?_
      intro _
      refine ra_cons ?_
      refine rd_str e_qx_ ?_
      intro _
      refine ra_cons ?_
      refine rd_tup ?_
      refine ra_nil ?_
      refine ⟨[], rfl, (by show (0 : Nat) ≤ 1000; decide), ?_⟩
      intro _
      refine ra_cons ?_
      refine rd_fz ?_
      refine rd_lst ?_
      refine ra_nil ?_
      refine ⟨[], rfl, (by show (0 : Nat) ≤ 1000; decide), ?_⟩
      refine ⟨_, rfl, ?_⟩
      intro _
      refine ra_cons ?_
      refine rd_fz ?_
      refine rd_dnewK ?_
      refine ⟨_, rfl, ?_⟩
      intro _
      refine ra_cons ?_
      refine rd_tup ?_
      refine ra_cons ?_
      refine rd_fz ?_
      refine rd_lst ?_
      refine ra_nil ?_
      refine ⟨[], rfl, (by show (0 : Nat) ≤ 1000; decide), ?_⟩
      refine ⟨_, rfl, ?_⟩
      intro _
      refine ra_cons ?_
      refine rd_fz ?_
      refine rd_lst ?_
      refine ra_nil ?_
      refine ⟨[], rfl, (by show (0 : Nat) ≤ 1000; decide), ?_⟩
      refine ⟨_, rfl, ?_⟩
      intro _
      refine ra_nil ?_
      refine ⟨[(.lst []), (.lst [])], rfl, (by show (2 : Nat) ≤ 1000; decide), ?_⟩
      intro _
      refine ra_cons ?_
      refine rd_tup ?_
      refine ra_cons ?_
      refine rd_fz ?_
      refine rd_lst ?_
      refine ra_nil ?_
      refine ⟨[], rfl, (by show (0 : Nat) ≤ 1000; decide), ?_⟩
      refine ⟨_, rfl, ?_⟩
      intro _
      refine ra_cons ?_
      refine rd_fz ?_
      refine rd_lst ?_
      refine ra_cons ?_
      refine rd_tup ?_
      refine ra_cons ?_
      refine rd_str e_q_a ?_
      intro _
      refine ra_cons ?_
      refine rd_tup ?_
      refine ra_cons ?_
      refine rd_str e_q_wire ?_
      intro _
      refine ra_cons ?_
      refine rd_str e_q_a ?_
      intro _
      refine ra_nil ?_
      refine ⟨[(.str q_wire), (.str q_a)], rfl, (by show (2 : Nat) ≤ 1000; decide), ?_⟩
      intro _
      refine ra_nil ?_
      refine ⟨[(.str q_a), (.tup [(.str q_wire), (.str q_a)])], rfl, (by show (2 : Nat) ≤ 1000; decide), ?_⟩
      intro _
      refine ra_nil ?_
      refine ⟨[(.tup [(.str q_a), (.tup [(.str q_wire), (.str q_a)])])], rfl, (by show (1 : Nat) ≤ 1000; decide), ?_⟩
      refine ⟨_, rfl, ?_⟩
      intro _
      refine ra_nil ?_
      refine ⟨[(.lst []), (.lst [(.tup [(.str q_a), (.tup [(.str q_wire), (.str q_a)])])])], rfl, (by show (2 : Nat) ≤ 1000; decide), ?_⟩
      intro _
      refine ra_nil ?_
      refine ⟨[.non, (.int 5), (.str qx_), (.tup []), (.lst []), (.dct false []), (.tup [(.lst []), (.lst [])]), (.tup [(.lst []), (.lst [(.tup [(.str q_a), (.tup [(.str q_wire), (.str q_a)])])])])], rfl, (by show (8 : Nat) ≤ 1000; decide), ?_⟩
      refine ⟨_, rfl, ?_⟩
      refine ⟨_, rfl, (by show (3 : Nat) < 8; decide), ?_⟩
      refine rs_at [some (.f x_script), some (deckT z3), none, some (.f (.lst [.non, (.int 5), (.str qx_), (.tup []), (.lst []), (.dct false []), (.tup [(.lst []), (.lst [])]), (.tup [(.lst []), (.lst [(.tup [(.str q_a), (.tup [(.str q_wire), (.str q_a)])])])])])), none, none, none, none] rfl ?_
      refine rs_seq ?_
      refine rs_set ?_ rfl (hpv _ (by decide))
      refine rd_fz ?_
      refine rd_op2L o_cat ?_
      refine rd_var rfl ?_
      intro _
      refine rd_lcR [7] (fun i hi => hi) (all1 (hpv _ (by decide))) ?_
      refine ri_lst ?_
      refine rd_lst ?_
      refine ra_cons ?_
      refine rd_int ?_
      intro _
      refine ra_cons ?_
      refine rd_int ?_
      intro _
      refine ra_nil ?_
      refine ⟨[(.int 10), (.int 11)], rfl, (by show (2 : Nat) ≤ 1000; decide), ?_⟩
      refine ⟨_, _, rfl, rfl, fun ds27 _ => ?_⟩
      refine ⟨[some (.f x_script), some (deckT z3), none, some (.f (.lst [.non, (.int 5), (.str qx_), (.tup []), (.lst []), (.dct false []), (.tup [(.lst []), (.lst [])]), (.tup [(.lst []), (.lst [(.tup [(.str q_a), (.tup [(.str q_wire), (.str q_a)])])])])])), none, none, none, none], _, _, rfl, ⟨.inr rfl, ⟨.inr rfl, ⟨.inl rfl, ⟨.inr rfl, ⟨.inl rfl, ⟨.inl rfl, ⟨.inl rfl, ⟨.inl rfl, trivial⟩⟩⟩⟩⟩⟩⟩⟩, (by first | exact trivial | rfl | exact ⟨rfl, rfl⟩), (all1 rfl), rfl, fun d25 _ _ => ?_, fun ys26 => ?_⟩
      · refine rg_name (by show (7 : Nat) < 8; decide) rfl (hpv _ (by decide)) ?_
        refine rt_true rfl ?_
        refine ⟨_, .ok none, (if_pos rfl).symm, fun _ => ?_, fun h => by cases h⟩
        refine rd_tup ?_
        refine ra_cons ?_
        refine rd_fz ?_
        refine rd_lst ?_
        refine ra_nil ?_
        refine ⟨[], rfl, (by show (0 : Nat) ≤ 1000; decide), ?_⟩
        refine ⟨_, rfl, ?_⟩
        intro _
        refine ra_cons ?_
        refine rd_fz ?_
        refine rd_lst ?_
        refine ra_cons ?_
        refine rd_tup ?_
        refine ra_cons ?_
        refine rd_str e_q_a ?_
        intro _
        refine ra_cons ?_
        refine rd_call hec hE ?_
        refine ra_cons ?_
        refine rd_str e_q_a ?_
        intro _
        refine ra_cons ?_
        refine rd_var rfl ?_
        intro _
        refine ra_nil ?_
        refine ⟨((.str q_a), d25), _, rfl, rfl, rfl, fun r28 => ?_⟩
        intro _
        refine ra_nil ?_
        refine ⟨[(.str q_a), r28], rfl, (by show (2 : Nat) ≤ 1000; decide), ?_⟩
        intro _
        refine ra_nil ?_
        refine ⟨[(.tup [(.str q_a), r28])], rfl, (by show (1 : Nat) ≤ 1000; decide), ?_⟩
        refine ⟨_, rfl, ?_⟩
        intro _
        refine ra_nil ?_
        refine ⟨[(.lst []), (.lst [(.tup [(.str q_a), r28])])], rfl, (by show (2 : Nat) ≤ 1000; decide), ?_⟩
        exact ⟨_, rfl, rfl, ⟨.inr rfl, ⟨.inr rfl, ⟨.inl rfl, ⟨.inr rfl, ⟨.inl rfl, ⟨.inl rfl, ⟨.inl rfl, ⟨.inl rfl, trivial⟩⟩⟩⟩⟩⟩⟩⟩⟩
      · refine ⟨_, _, _, rfl, rfl, rfl, fun t24 => ?_⟩
        refine ⟨_, rfl, ?_⟩
        refine ⟨_, rfl, (by show (3 : Nat) < 8; decide), ?_⟩
        refine rs_at [some (.f x_script), some (deckT z3), none, some (.f (.lst t24)), none, none, none, none] rfl ?_
        refine rs_seq ?_
        refine rs_for (Z := Unit) (R' := D) [4] ?_
        refine ri_lst ?_
        refine rd_op2L o_cat ?_
        refine rd_var rfl ?_
        intro _
        refine rd_lst ?_
        refine ra_cons ?_
        refine rd_tup ?_
        refine ra_cons ?_
        refine rd_fz ?_
        refine rd_lst ?_
        refine ra_nil ?_
        refine ⟨[], rfl, (by show (0 : Nat) ≤ 1000; decide), ?_⟩
        refine ⟨_, rfl, ?_⟩
        intro _
        refine ra_cons ?_
        refine rd_fz ?_
        refine rd_lst ?_
        refine ra_cons ?_
        refine rd_tup ?_
        refine ra_cons ?_
        refine rd_str e_q_a ?_
        intro _
        refine ra_cons ?_
        refine rd_tup ?_
        refine ra_nil ?_
        refine ⟨[], rfl, (by show (0 : Nat) ≤ 1000; decide), ?_⟩
        intro _
        refine ra_nil ?_
        refine ⟨[(.str q_a), (.tup [])], rfl, (by show (2 : Nat) ≤ 1000; decide), ?_⟩
        intro _
        refine ra_nil ?_
        refine ⟨[(.tup [(.str q_a), (.tup [])])], rfl, (by show (1 : Nat) ≤ 1000; decide), ?_⟩
        refine ⟨_, rfl, ?_⟩
        intro _
        refine ra_nil ?_
        refine ⟨[(.lst []), (.lst [(.tup [(.str q_a), (.tup [])])])], rfl, (by show (2 : Nat) ≤ 1000; decide), ?_⟩
        intro _
        refine ra_cons ?_
        refine rd_tup ?_
        refine ra_cons ?_
        refine rd_fz ?_
        refine rd_lst ?_
        refine ra_cons ?_
        refine rd_str e_q_a ?_
        intro _
        refine ra_nil ?_
        refine ⟨[(.str q_a)], rfl, (by show (1 : Nat) ≤ 1000; decide), ?_⟩
        refine ⟨_, rfl, ?_⟩
        intro _
        refine ra_cons ?_
        refine rd_fz ?_
        refine rd_lst ?_
        refine ra_nil ?_
        refine ⟨[], rfl, (by show (0 : Nat) ≤ 1000; decide), ?_⟩
        refine ⟨_, rfl, ?_⟩
        intro _
        refine ra_nil ?_
        refine ⟨[(.lst [(.str q_a)]), (.lst [])], rfl, (by show (2 : Nat) ≤ 1000; decide), ?_⟩
        intro _
        refine ra_cons ?_
        refine rd_bl ?_
        intro _
        refine ra_nil ?_
        refine ⟨[(.tup [(.lst []), (.lst [(.tup [(.str q_a), (.tup [])])])]), (.tup [(.lst [(.str q_a)]), (.lst [])]), (.bl true)], rfl, (by show (3 : Nat) ≤ 1000; decide), ?_⟩
        refine ⟨_, _, _, rfl, rfl, rfl, fun t32 => ?_⟩
        refine ⟨_, _, rfl, rfl, fun ds31 _ => ?_⟩
        refine ⟨fun z30 => [some (.f x_script), some (deckT z3), none, some (.f (.lst t24)), none, none, none, none], _, _, _, rfl, ⟨.inr rfl, ⟨.inr rfl, ⟨.inl rfl, ⟨.inr rfl, ⟨.inl rfl, ⟨.inl rfl, ⟨.inl rfl, ⟨.inl rfl, trivial⟩⟩⟩⟩⟩⟩⟩⟩, fun _ => (by first | exact trivial | rfl | exact ⟨rfl, rfl⟩), fun z30 d29 => ?_, fun z30 => ?_⟩
        · refine rg_name (by show (4 : Nat) < 8; decide) rfl (hpv _ (by decide)) ?_
          refine rs_at [some (.f x_script), some (deckT z3), none, some (.f (.lst t24)), some (.f d29), none, none, none] rfl ?_
          refine rs_if ?_
          refine rt_not ?_
          refine rt_val ?_
          refine rd_call hec hE ?_
          refine ra_cons ?_
          refine rd_var rfl ?_
          intro _
          refine ra_nil ?_
          refine ⟨(d29), _, rfl, rfl, rfl, fun r34 => ?_⟩
          refine ⟨_, _, rfl, rfl, fun t33 => ?_⟩
          refine ⟨_, _, rfl, fun _ => ?_, fun _ => ?_⟩
          · refine rs_ret ?_
            refine rd_bl ?_
            refine ⟨_, rfl, ?_⟩
            exact ⟨_, rfl, ⟨_, rfl, rfl, trivial⟩⟩
          · refine rs_next ?_
            exact ⟨_, rfl, ⟨.inr rfl, ⟨.inr rfl, ⟨.inl rfl, ⟨.inr rfl, ⟨.inl rfl, ⟨.inl rfl, ⟨.inl rfl, ⟨.inl rfl, trivial⟩⟩⟩⟩⟩⟩⟩⟩⟩
        · refine rs_at [some (.f x_script), some (deckT z3), none, some (.f (.lst t24)), none, none, none, none] rfl ?_
          refine rs_onN ?_
          refine rs_ret ?_
          refine rd_bl ?_
          refine ⟨_, rfl, ?_⟩
          exact ⟨_, rfl, rfl, trivial⟩
end
theorem all_mk {l : PySem.W.OpenLaw} {w : World} {K : PySem.W.Frag} {h : Heap} {mg : Str → Option Value} {fa : Addr} (X : K.In h) (G : h.Ns mainGlobals mg) (hfa : mg "law" = some (.ref fa))
    {f0 : Addr} {od0 an0 : Option Addr} {sl0 : Array (Option Value)} {oc0 kV0 dc0 pm0 cd0 ct0 : Value}
    (a0 : PySem.W.nsIn K mainGlobals "_law_deck" = some (some (.ref f0))) (l0 : K.lookup f0 = some ⟨oc0, od0, .func (PySem.W.fnOf "_law_deck" "_law_deck" (defArgs s__law_deck) (defBody s__law_deck) (defScope s__law_deck) .none kV0 dc0 pm0 an0 cd0 ct0), sl0⟩) (c0 : PySem.W.codeIn K cd0 "_law_deck" = true) (k0 : PySem.W.keepIn K (.ref f0) = true)
    {f1 : Addr} {od1 an1 : Option Addr} {sl1 : Array (Option Value)} {oc1 kV1 dc1 pm1 cd1 ct1 : Value}
    (a1 : PySem.W.nsIn K mainGlobals "_law_draw" = some (some (.ref f1))) (l1 : K.lookup f1 = some ⟨oc1, od1, .func (PySem.W.fnOf "_law_draw" "_law_draw" (defArgs s__law_draw) (defBody s__law_draw) (defScope s__law_draw) .none kV1 dc1 pm1 an1 cd1 ct1), sl1⟩) (c1 : PySem.W.codeIn K cd1 "_law_draw" = true) (k1 : PySem.W.keepIn K (.ref f1) = true)
    {f2 : Addr} {od2 an2 : Option Addr} {sl2 : Array (Option Value)} {oc2 kV2 dc2 pm2 cd2 ct2 : Value}
    (a2 : PySem.W.nsIn K mainGlobals "_law_names" = some (some (.ref f2))) (l2 : K.lookup f2 = some ⟨oc2, od2, .func (PySem.W.fnOf "_law_names" "_law_names" (defArgs s__law_names) (defBody s__law_names) (defScope s__law_names) .none kV2 dc2 pm2 an2 cd2 ct2), sl2⟩) (c2 : PySem.W.codeIn K cd2 "_law_names" = true) (k2 : PySem.W.keepIn K (.ref f2) = true)
    {f3 : Addr} {od3 an3 : Option Addr} {sl3 : Array (Option Value)} {oc3 kV3 dc3 pm3 cd3 ct3 : Value}
    (a3 : PySem.W.nsIn K mainGlobals "_law_held" = some (some (.ref f3))) (l3 : K.lookup f3 = some ⟨oc3, od3, .func (PySem.W.fnOf "_law_held" "_law_held" (defArgs s__law_held) (defBody s__law_held) (defScope s__law_held) .none kV3 dc3 pm3 an3 cd3 ct3), sl3⟩) (c3 : PySem.W.codeIn K cd3 "_law_held" = true) (k3 : PySem.W.keepIn K (.ref f3) = true)
    {f4 : Addr} {od4 an4 : Option Addr} {sl4 : Array (Option Value)} {oc4 kV4 dc4 pm4 cd4 ct4 : Value}
    (a4 : PySem.W.nsIn K mainGlobals "_law_known" = some (some (.ref f4))) (l4 : K.lookup f4 = some ⟨oc4, od4, .func (PySem.W.fnOf "_law_known" "_law_known" (defArgs s__law_known) (defBody s__law_known) (defScope s__law_known) .none kV4 dc4 pm4 an4 cd4 ct4), sl4⟩) (c4 : PySem.W.codeIn K cd4 "_law_known" = true) (k4 : PySem.W.keepIn K (.ref f4) = true)
    {f5 : Addr} {od5 an5 : Option Addr} {sl5 : Array (Option Value)} {oc5 kV5 dc5 pm5 cd5 ct5 : Value}
    (a5 : PySem.W.nsIn K mainGlobals "_law_rule" = some (some (.ref f5))) (l5 : K.lookup f5 = some ⟨oc5, od5, .func (PySem.W.fnOf "_law_rule" "_law_rule" (defArgs s__law_rule) (defBody s__law_rule) (defScope s__law_rule) .none kV5 dc5 pm5 an5 cd5 ct5), sl5⟩) (c5 : PySem.W.codeIn K cd5 "_law_rule" = true) (k5 : PySem.W.keepIn K (.ref f5) = true)
    {f6 : Addr} {od6 an6 : Option Addr} {sl6 : Array (Option Value)} {oc6 kV6 dc6 pm6 cd6 ct6 : Value}
    (a6 : PySem.W.nsIn K mainGlobals "_law_net" = some (some (.ref f6))) (l6 : K.lookup f6 = some ⟨oc6, od6, .func (PySem.W.fnOf "_law_net" "_law_net" (defArgs s__law_net) (defBody s__law_net) (defScope s__law_net) .none kV6 dc6 pm6 an6 cd6 ct6), sl6⟩) (c6 : PySem.W.codeIn K cd6 "_law_net" = true) (k6 : PySem.W.keepIn K (.ref f6) = true)
    {f7 : Addr} {od7 an7 : Option Addr} {sl7 : Array (Option Value)} {oc7 kV7 dc7 pm7 cd7 ct7 : Value}
    (a7 : PySem.W.nsIn K mainGlobals "_law_name_good" = some (some (.ref f7))) (l7 : K.lookup f7 = some ⟨oc7, od7, .func (PySem.W.fnOf "_law_name_good" "_law_name_good" (defArgs s__law_name_good) (defBody s__law_name_good) (defScope s__law_name_good) .none kV7 dc7 pm7 an7 cd7 ct7), sl7⟩) (c7 : PySem.W.codeIn K cd7 "_law_name_good" = true) (k7 : PySem.W.keepIn K (.ref f7) = true)
    {f8 : Addr} {od8 an8 : Option Addr} {sl8 : Array (Option Value)} {oc8 kV8 dc8 pm8 cd8 ct8 : Value}
    (a8 : PySem.W.nsIn K mainGlobals "_law_rule_good" = some (some (.ref f8))) (l8 : K.lookup f8 = some ⟨oc8, od8, .func (PySem.W.fnOf "_law_rule_good" "_law_rule_good" (defArgs s__law_rule_good) (defBody s__law_rule_good) (defScope s__law_rule_good) .none kV8 dc8 pm8 an8 cd8 ct8), sl8⟩) (c8 : PySem.W.codeIn K cd8 "_law_rule_good" = true) (k8 : PySem.W.keepIn K (.ref f8) = true)
    {f9 : Addr} {od9 an9 : Option Addr} {sl9 : Array (Option Value)} {oc9 kV9 dc9 pm9 cd9 ct9 : Value}
    (a9 : PySem.W.nsIn K mainGlobals "_law_good" = some (some (.ref f9))) (l9 : K.lookup f9 = some ⟨oc9, od9, .func (PySem.W.fnOf "_law_good" "_law_good" (defArgs s__law_good) (defBody s__law_good) (defScope s__law_good) .none kV9 dc9 pm9 an9 cd9 ct9), sl9⟩) (c9 : PySem.W.codeIn K cd9 "_law_good" = true) (k9 : PySem.W.keepIn K (.ref f9) = true)
    {f10 : Addr} {od10 an10 : Option Addr} {sl10 : Array (Option Value)} {oc10 kV10 dc10 pm10 cd10 ct10 : Value}
    (a10 : PySem.W.nsIn K mainGlobals "_law_deep" = some (some (.ref f10))) (l10 : K.lookup f10 = some ⟨oc10, od10, .func (PySem.W.fnOf "_law_deep" "_law_deep" (defArgs s__law_deep) (defBody s__law_deep) (defScope s__law_deep) .none kV10 dc10 pm10 an10 cd10 ct10), sl10⟩) (c10 : PySem.W.codeIn K cd10 "_law_deep" = true) (k10 : PySem.W.keepIn K (.ref f10) = true)
    {f11 : Addr} {od11 an11 : Option Addr} {sl11 : Array (Option Value)} {oc11 kV11 dc11 pm11 cd11 ct11 : Value}
    (a11 : PySem.W.nsIn K mainGlobals "wires_of" = some (some (.ref f11))) (l11 : K.lookup f11 = some ⟨oc11, od11, .func (PySem.W.fnOf "wires_of" "wires_of" (defArgs s_wires_of) (defBody s_wires_of) (defScope s_wires_of) .none kV11 dc11 pm11 an11 cd11 ct11), sl11⟩) (c11 : PySem.W.codeIn K cd11 "wires_of" = true) (k11 : PySem.W.keepIn K (.ref f11) = true)
    {f12 : Addr} {od12 an12 : Option Addr} {sl12 : Array (Option Value)} {oc12 kV12 dc12 pm12 cd12 ct12 : Value}
    (a12 : PySem.W.nsIn K mainGlobals "is_rule" = some (some (.ref f12))) (l12 : K.lookup f12 = some ⟨oc12, od12, .func (PySem.W.fnOf "is_rule" "is_rule" (defArgs s_is_rule) (defBody s_is_rule) (defScope s_is_rule) .none kV12 dc12 pm12 an12 cd12 ct12), sl12⟩) (c12 : PySem.W.codeIn K cd12 "is_rule" = true) (k12 : PySem.W.keepIn K (.ref f12) = true)
    {f13 : Addr} {od13 an13 : Option Addr} {sl13 : Array (Option Value)} {oc13 kV13 dc13 pm13 cd13 ct13 : Value}
    (a13 : PySem.W.nsIn K mainGlobals "is_name" = some (some (.ref f13))) (l13 : K.lookup f13 = some ⟨oc13, od13, .func (PySem.W.fnOf "is_name" "is_name" (defArgs s_is_name) (defBody s_is_name) (defScope s_is_name) .none kV13 dc13 pm13 an13 cd13 ct13), sl13⟩) (c13 : PySem.W.codeIn K cd13 "is_name" = true) (k13 : PySem.W.keepIn K (.ref f13) = true)
    {f14 : Addr} {od14 an14 : Option Addr} {sl14 : Array (Option Value)} {oc14 kV14 dc14 pm14 cd14 ct14 : Value}
    (a14 : PySem.W.nsIn K mainGlobals "is_gate" = some (some (.ref f14))) (l14 : K.lookup f14 = some ⟨oc14, od14, .func (PySem.W.fnOf "is_gate" "is_gate" (defArgs s_is_gate) (defBody s_is_gate) (defScope s_is_gate) .none kV14 dc14 pm14 an14 cd14 ct14), sl14⟩) (c14 : PySem.W.codeIn K cd14 "is_gate" = true) (k14 : PySem.W.keepIn K (.ref f14) = true)
    {f15 : Addr} {od15 an15 : Option Addr} {sl15 : Array (Option Value)} {oc15 kV15 dc15 pm15 cd15 ct15 : Value}
    (a15 : PySem.W.nsIn K mainGlobals "is_net" = some (some (.ref f15))) (l15 : K.lookup f15 = some ⟨oc15, od15, .func (PySem.W.fnOf "is_net" "is_net" (defArgs s_is_net) (defBody s_is_net) (defScope s_is_net) .none kV15 dc15 pm15 an15 cd15 ct15), sl15⟩) (c15 : PySem.W.codeIn K cd15 "is_net" = true) (k15 : PySem.W.keepIn K (.ref f15) = true)
    {f16 : Addr} {od16 an16 : Option Addr} {sl16 : Array (Option Value)} {oc16 kV16 dc16 pm16 cd16 ct16 : Value}
    (a16 : PySem.W.nsIn K mainGlobals "_law_right" = some (some (.ref f16))) (l16 : K.lookup f16 = some ⟨oc16, od16, .func (PySem.W.fnOf "_law_right" "_law_right" (defArgs s__law_right) (defBody s__law_right) (defScope s__law_right) .none kV16 dc16 pm16 an16 cd16 ct16), sl16⟩) (c16 : PySem.W.codeIn K cd16 "_law_right" = true) (k16 : PySem.W.keepIn K (.ref f16) = true)
    {f17 : Addr} {od17 an17 : Option Addr} {sl17 : Array (Option Value)} {oc17 kV17 dc17 pm17 cd17 ct17 : Value}
    (a17 : PySem.W.nsIn K mainGlobals "_law_deep_rule" = some (some (.ref f17))) (l17 : K.lookup f17 = some ⟨oc17, od17, .func (PySem.W.fnOf "_law_deep_rule" "_law_deep_rule" (defArgs s__law_deep_rule) (defBody s__law_deep_rule) (defScope s__law_deep_rule) .none kV17 dc17 pm17 an17 cd17 ct17), sl17⟩) (c17 : PySem.W.codeIn K cd17 "_law_deep_rule" = true) (k17 : PySem.W.keepIn K (.ref f17) = true)
    {f18 : Addr} {od18 an18 : Option Addr} {sl18 : Array (Option Value)} {oc18 kV18 dc18 pm18 cd18 ct18 : Value}
    (a18 : PySem.W.nsIn K mainGlobals "_law_fitting" = some (some (.ref f18))) (l18 : K.lookup f18 = some ⟨oc18, od18, .func (PySem.W.fnOf "_law_fitting" "_law_fitting" (defArgs s__law_fitting) (defBody s__law_fitting) (defScope s__law_fitting) .none kV18 dc18 pm18 an18 cd18 ct18), sl18⟩) (c18 : PySem.W.codeIn K cd18 "_law_fitting" = true) (k18 : PySem.W.keepIn K (.ref f18) = true)
    {f19 : Addr} {od19 an19 : Option Addr} {sl19 : Array (Option Value)} {oc19 kV19 dc19 pm19 cd19 ct19 : Value}
    (a19 : PySem.W.nsIn K mainGlobals "_law_copy" = some (some (.ref f19))) (l19 : K.lookup f19 = some ⟨oc19, od19, .func (PySem.W.fnOf "_law_copy" "_law_copy" (defArgs s__law_copy) (defBody s__law_copy) (defScope s__law_copy) .none kV19 dc19 pm19 an19 cd19 ct19), sl19⟩) (c19 : PySem.W.codeIn K cd19 "_law_copy" = true) (k19 : PySem.W.keepIn K (.ref f19) = true)
    {f20 : Addr} {od20 an20 : Option Addr} {sl20 : Array (Option Value)} {oc20 kV20 dc20 pm20 cd20 ct20 : Value}
    (a20 : PySem.W.nsIn K mainGlobals "_law_read_as" = some (some (.ref f20))) (l20 : K.lookup f20 = some ⟨oc20, od20, .func (PySem.W.fnOf "_law_read_as" "_law_read_as" (defArgs s__law_read_as) (defBody s__law_read_as) (defScope s__law_read_as) .none kV20 dc20 pm20 an20 cd20 ct20), sl20⟩) (c20 : PySem.W.codeIn K cd20 "_law_read_as" = true) (k20 : PySem.W.keepIn K (.ref f20) = true)
    {f21 : Addr} {od21 an21 : Option Addr} {sl21 : Array (Option Value)} {oc21 kV21 dc21 pm21 cd21 ct21 : Value}
    (a21 : PySem.W.nsIn K mainGlobals "_law_named" = some (some (.ref f21))) (l21 : K.lookup f21 = some ⟨oc21, od21, .func (PySem.W.fnOf "_law_named" "_law_named" (defArgs s__law_named) (defBody s__law_named) (defScope s__law_named) .none kV21 dc21 pm21 an21 cd21 ct21), sl21⟩) (c21 : PySem.W.codeIn K cd21 "_law_named" = true) (k21 : PySem.W.keepIn K (.ref f21) = true)
    {f22 : Addr} {od22 an22 : Option Addr} {sl22 : Array (Option Value)} {oc22 kV22 dc22 pm22 cd22 ct22 : Value}
    (a22 : PySem.W.nsIn K mainGlobals "_law_odd" = some (some (.ref f22))) (l22 : K.lookup f22 = some ⟨oc22, od22, .func (PySem.W.fnOf "_law_odd" "_law_odd" (defArgs s__law_odd) (defBody s__law_odd) (defScope s__law_odd) .none kV22 dc22 pm22 an22 cd22 ct22), sl22⟩) (c22 : PySem.W.codeIn K cd22 "_law_odd" = true) (k22 : PySem.W.keepIn K (.ref f22) = true)
    {f23 : Addr} {od23 an23 : Option Addr} {sl23 : Array (Option Value)} {oc23 kV23 dc23 pm23 cd23 ct23 : Value}
    (a23 : PySem.W.nsIn K mainGlobals "_law_bent" = some (some (.ref f23))) (l23 : K.lookup f23 = some ⟨oc23, od23, .func (PySem.W.fnOf "_law_bent" "_law_bent" (defArgs s__law_bent) (defBody s__law_bent) (defScope s__law_bent) .none kV23 dc23 pm23 an23 cd23 ct23), sl23⟩) (c23 : PySem.W.codeIn K cd23 "_law_bent" = true) (k23 : PySem.W.keepIn K (.ref f23) = true)
    {f24 : Addr} {od24 an24 : Option Addr} {sl24 : Array (Option Value)} {oc24 kV24 dc24 pm24 cd24 ct24 : Value}
    (a24 : PySem.W.nsIn K mainGlobals "_law_changed" = some (some (.ref f24))) (l24 : K.lookup f24 = some ⟨oc24, od24, .func (PySem.W.fnOf "_law_changed" "_law_changed" (defArgs s__law_changed) (defBody s__law_changed) (defScope s__law_changed) .none kV24 dc24 pm24 an24 cd24 ct24), sl24⟩) (c24 : PySem.W.codeIn K cd24 "_law_changed" = true) (k24 : PySem.W.keepIn K (.ref f24) = true)
    {f25 : Addr} {od25 an25 : Option Addr} {sl25 : Array (Option Value)} {oc25 kV25 dc25 pm25 cd25 ct25 : Value}
    (a25 : PySem.W.nsIn K mainGlobals "law" = some (some (.ref f25))) (l25 : K.lookup f25 = some ⟨oc25, od25, .func (PySem.W.fnOf "law" "law" (defArgs s_law) (defBody s_law) (defScope s_law) .none kV25 dc25 pm25 an25 cd25 ct25), sl25⟩) (c25 : PySem.W.codeIn K cd25 "law" = true) (k25 : PySem.W.keepIn K (.ref f25) = true)
    (z_bool : PySem.W.nsIn K mainGlobals "bool" = some none)
    (z_int : PySem.W.nsIn K mainGlobals "int" = some none)
    (z_isinstance : PySem.W.nsIn K mainGlobals "isinstance" = some none)
    (z_len : PySem.W.nsIn K mainGlobals "len" = some none)
    (z_list : PySem.W.nsIn K mainGlobals "list" = some none)
    (z_max : PySem.W.nsIn K mainGlobals "max" = some none)
    (z_min : PySem.W.nsIn K mainGlobals "min" = some none)
    (z_range : PySem.W.nsIn K mainGlobals "range" = some none)
    (z_set : PySem.W.nsIn K mainGlobals "set" = some none)
    (z_str : PySem.W.nsIn K mainGlobals "str" = some none)
    (z_tuple : PySem.W.nsIn K mainGlobals "tuple" = some none)
    {ct_SMALL_LETTERS : Tok} (cg_SMALL_LETTERS : PySem.W.nsIn K mainGlobals "SMALL_LETTERS" = some (some (.str (PySem.Str.ofString "abcdefghijklmnopqrstuvwxyz") ct_SMALL_LETTERS)))
    {ct_LONGEST_NAME : Tok} (cg_LONGEST_NAME : PySem.W.nsIn K mainGlobals "LONGEST_NAME" = some (some (.int 8 ct_LONGEST_NAME)))
    {ct_DEEPEST_RULE : Tok} (cg_DEEPEST_RULE : PySem.W.nsIn K mainGlobals "DEEPEST_RULE" = some (some (.int 10 ct_DEEPEST_RULE)))
    {ct_MOST_GATES : Tok} (cg_MOST_GATES : PySem.W.nsIn K mainGlobals "MOST_GATES" = some (some (.int 7 ct_MOST_GATES)))
    {ct_MOST_INPUTS : Tok} (cg_MOST_INPUTS : PySem.W.nsIn K mainGlobals "MOST_INPUTS" = some (some (.int 4 ct_MOST_INPUTS)))
    : ∃ fd : FuncData, (∀ (s : Shared) (v : Value), BindsTo s fd ⟨[v], []⟩ [("script", v)]) ∧ ∀ base : Heap, K.In base → base.Ns mainGlobals mg → FnOk l.prog w K mg base CX0 29 fa fd ["script"] (@spOf (ecOf l.prog w K) D D (@EC.ec (ecOf l.prog w K)) (fun a => [.f a]) (fun a => m_law a) (fun r => .f r) (fun r => [none])) := by
  letI : EC := ecOf l.prog w K
  have e := hfa.symm.trans (PySem.W.mg_of X G a25)
  cases e
  have F0 := fun_mk (st := s__law_deck) l0 c0 k0
  have b0 := F0.binds (ps := ["script"]) fun _ _ _ _ _ _ us hl => match us, hl with | [_], _ => rfl
  have F1 := fun_mk (st := s__law_draw) l1 c1 k1
  have b1 := F1.binds (ps := ["deck", "many"]) fun _ _ _ _ _ _ us hl => match us, hl with | [_, _], _ => rfl
  have F2 := fun_mk (st := s__law_names) l2 c2 k2
  have b2 := F2.binds (ps := ["deck", "many"]) fun _ _ _ _ _ _ us hl => match us, hl with | [_, _], _ => rfl
  have F3 := fun_mk (st := s__law_held) l3 c3 k3
  have b3 := F3.binds (ps := ["one", "other", "own"]) fun _ _ _ _ _ _ us hl => match us, hl with | [_, _, _], _ => rfl
  have F4 := fun_mk (st := s__law_known) l4 c4 k4
  have b4 := F4.binds (ps := ["deck"]) fun _ _ _ _ _ _ us hl => match us, hl with | [_], _ => rfl
  have F5 := fun_mk (st := s__law_rule) l5 c5 k5
  have b5 := F5.binds (ps := ["deck", "names", "deep"]) fun _ _ _ _ _ _ us hl => match us, hl with | [_, _, _], _ => rfl
  have F6 := fun_mk (st := s__law_net) l6 c6 k6
  have b6 := F6.binds (ps := ["deck"]) fun _ _ _ _ _ _ us hl => match us, hl with | [_], _ => rfl
  have F7 := fun_mk (st := s__law_name_good) l7 c7 k7
  have b7 := F7.binds (ps := ["thing"]) fun _ _ _ _ _ _ us hl => match us, hl with | [_], _ => rfl
  have F8 := fun_mk (st := s__law_rule_good) l8 c8 k8
  have b8 := F8.binds (ps := ["thing", "names", "deep"]) fun _ _ _ _ _ _ us hl => match us, hl with | [_, _, _], _ => rfl
  have F9 := fun_mk (st := s__law_good) l9 c9 k9
  have b9 := F9.binds (ps := ["thing"]) fun _ _ _ _ _ _ us hl => match us, hl with | [_], _ => rfl
  have F10 := fun_mk (st := s__law_deep) l10 c10 k10
  have b10 := F10.binds (ps := ["thing"]) fun _ _ _ _ _ _ us hl => match us, hl with | [_], _ => rfl
  have F11 := fun_mk (st := s_wires_of) l11 c11 k11
  have b11 := F11.binds (ps := ["net"]) fun _ _ _ _ _ _ us hl => match us, hl with | [_], _ => rfl
  have F12 := fun_mk (st := s_is_rule) l12 c12 k12
  have b12 := F12.binds (ps := ["thing", "names", "deep"]) fun _ _ _ _ _ _ us hl => match us, hl with | [_, _, _], _ => rfl
  have F13 := fun_mk (st := s_is_name) l13 c13 k13
  have b13 := F13.binds (ps := ["thing"]) fun _ _ _ _ _ _ us hl => match us, hl with | [_], _ => rfl
  have F14 := fun_mk (st := s_is_gate) l14 c14 k14
  have b14 := F14.binds (ps := ["thing"]) fun _ _ _ _ _ _ us hl => match us, hl with | [_], _ => rfl
  have F15 := fun_mk (st := s_is_net) l15 c15 k15
  have b15 := F15.binds (ps := ["thing"]) fun _ _ _ _ _ _ us hl => match us, hl with | [_], _ => rfl
  have F16 := fun_mk (st := s__law_right) l16 c16 k16
  have b16 := F16.binds (ps := ["thing"]) fun _ _ _ _ _ _ us hl => match us, hl with | [_], _ => rfl
  have F17 := fun_mk (st := s__law_deep_rule) l17 c17 k17
  have b17 := F17.binds (ps := ["name", "deep"]) fun _ _ _ _ _ _ us hl => match us, hl with | [_, _], _ => rfl
  have F18 := fun_mk (st := s__law_fitting) l18 c18 k18
  have b18 := F18.binds (ps := ["deck"]) fun _ _ _ _ _ _ us hl => match us, hl with | [_], _ => rfl
  have F19 := fun_mk (st := s__law_copy) l19 c19 k19
  have b19 := F19.binds (ps := ["net"]) fun _ _ _ _ _ _ us hl => match us, hl with | [_], _ => rfl
  have F20 := fun_mk (st := s__law_read_as) l20 c20 k20
  have b20 := F20.binds (ps := ["rule", "name", "other"]) fun _ _ _ _ _ _ us hl => match us, hl with | [_, _, _], _ => rfl
  have F21 := fun_mk (st := s__law_named) l21 c21 k21
  have b21 := F21.binds (ps := ["deck", "net"]) fun _ _ _ _ _ _ us hl => match us, hl with | [_, _], _ => rfl
  have F22 := fun_mk (st := s__law_odd) l22 c22 k22
  have b22 := F22.binds (ps := ["deck", "thing"]) fun _ _ _ _ _ _ us hl => match us, hl with | [_, _], _ => rfl
  have F23 := fun_mk (st := s__law_bent) l23 c23 k23
  have b23 := F23.binds (ps := ["deck", "rule"]) fun _ _ _ _ _ _ us hl => match us, hl with | [_, _], _ => rfl
  have F24 := fun_mk (st := s__law_changed) l24 c24 k24
  have b24 := F24.binds (ps := ["deck", "net"]) fun _ _ _ _ _ _ us hl => match us, hl with | [_, _], _ => rfl
  have F25 := fun_mk (st := s_law) l25 c25 k25
  exact ⟨PySem.W.fnOf "law" "law" (defArgs s_law) (defBody s_law) (defScope s_law) .none kV25 dc25 pm25 an25 cd25 ct25, fun s v => .of_eq rfl, fun base _ _ => ok_law ⟨_, _, F0, b0, PySem.W.mg_of X G a0, _, _, F1, b1, PySem.W.mg_of X G a1, _, _, F2, b2, PySem.W.mg_of X G a2, _, _, F3, b3, PySem.W.mg_of X G a3, _, _, F4, b4, PySem.W.mg_of X G a4, _, _, F5, b5, PySem.W.mg_of X G a5, _, _, F6, b6, PySem.W.mg_of X G a6, _, _, F7, b7, PySem.W.mg_of X G a7, _, _, F8, b8, PySem.W.mg_of X G a8, _, _, F9, b9, PySem.W.mg_of X G a9, _, _, F10, b10, PySem.W.mg_of X G a10, _, _, F11, b11, PySem.W.mg_of X G a11, _, _, F12, b12, PySem.W.mg_of X G a12, _, _, F13, b13, PySem.W.mg_of X G a13, _, _, F14, b14, PySem.W.mg_of X G a14, _, _, F15, b15, PySem.W.mg_of X G a15, _, _, F16, b16, PySem.W.mg_of X G a16, _, _, F17, b17, PySem.W.mg_of X G a17, _, _, F18, b18, PySem.W.mg_of X G a18, _, _, F19, b19, PySem.W.mg_of X G a19, _, _, F20, b20, PySem.W.mg_of X G a20, _, _, F21, b21, PySem.W.mg_of X G a21, _, _, F22, b22, PySem.W.mg_of X G a22, _, _, F23, b23, PySem.W.mg_of X G a23, _, _, F24, b24, PySem.W.mg_of X G a24, _, _, F25, PySem.W.mg_none_of X G z_bool, PySem.W.mg_none_of X G z_int, PySem.W.mg_none_of X G z_isinstance, PySem.W.mg_none_of X G z_len, PySem.W.mg_none_of X G z_list, PySem.W.mg_none_of X G z_max, PySem.W.mg_none_of X G z_min, PySem.W.mg_none_of X G z_range, PySem.W.mg_none_of X G z_set, PySem.W.mg_none_of X G z_str, PySem.W.mg_none_of X G z_tuple, ct_SMALL_LETTERS, PySem.W.mg_of X G cg_SMALL_LETTERS, ct_LONGEST_NAME, PySem.W.mg_of X G cg_LONGEST_NAME, ct_DEEPEST_RULE, PySem.W.mg_of X G cg_DEEPEST_RULE, ct_MOST_GATES, PySem.W.mg_of X G cg_MOST_GATES, ct_MOST_INPUTS, PySem.W.mg_of X G cg_MOST_INPUTS⟩⟩
end W

namespace W
open PySem VL
/-! steps -/
section
variable {α β : Type}
@[simp] theorem sx_ob (a : α) (k : α → Res β) : ob (some a) k = k a := rfl
@[simp] theorem sx_rb (a : α) (k : α → Res β) : rb (.ok a) k = k a := rfl
@[simp] theorem sx_on1 {Z R Q : Type} (z : Z) (a : Z → Res Q) (b : R → Res Q) : Fl.on (.nx z) a b = a z := rfl
@[simp] theorem sx_on2 {Z R Q : Type} (z : R) (a : Z → Res Q) (b : R → Res Q) : Fl.on (.rt z) a b = b z := rfl
end
@[simp] theorem sx_t0 {a : D} {l : List D} : ixD (.tup (a :: l)) (.int 0) = some a := ix_t (i := 0) rfl
@[simp] theorem sx_t1 {a b : D} {l : List D} : ixD (.tup (a :: b :: l)) (.int 1) = some b := ix_t (i := 1) rfl
@[simp] theorem sx_t2 {a b c : D} {l : List D} : ixD (.tup (a :: b :: c :: l)) (.int 2) = some c := ix_t (i := 2) rfl
@[simp] theorem sx_t3 {a b c d : D} {l : List D} : ixD (.tup (a :: b :: c :: d :: l)) (.int 3) = some d := ix_t (i := 3) rfl
@[simp] theorem sx_l0 {a : D} {l : List D} : ixD (.lst (a :: l)) (.int 0) = some a := ix_l (i := 0) rfl
@[simp] theorem sx_l1 {a b : D} {l : List D} : ixD (.lst (a :: b :: l)) (.int 1) = some b := ix_l (i := 1) rfl
@[simp] theorem sx_l2 {a b c : D} {l : List D} : ixD (.lst (a :: b :: c :: l)) (.int 2) = some c := ix_l (i := 2) rfl
@[simp] theorem sx_eqs (a b : List Nat) : eqD (.str a) (.str b) = some (a == b) := eq_str
@[simp] theorem sx_nes (a b : List Nat) : neD (.str a) (.str b) = some (!(a == b)) := ne_str
theorem eq_int {a b : Int} : eqD (.int a) (.int b) = some (a == b) := by
  unfold eqD
  rw [if_pos ⟨rfl, rfl, Nat.zero_le _⟩]
  simp [D.eqv]
@[simp] theorem sx_eqi (a b : Int) : eqD (.int a) (.int b) = some (a == b) := eq_int
@[simp] theorem sx_nei (a b : Int) : neD (.int a) (.int b) = some (!(a == b)) := by unfold neD; rw [eq_int]; rfl
@[simp] theorem sx_asL (l : List D) : asLst (.lst l) = some l := rfl
@[simp] theorem sx_asS (l : List Nat) : asStr (.str l) = some l := rfl
@[simp] theorem sx_asB (b : Bool) : asB (.bl b) = some b := rfl
@[simp] theorem sx_asI (b : Int) : asI (.int b) = some b := rfl
@[simp] theorem sx_len (l : List D) : lenD (.lst l) = some (.int l.length) := rfl
@[simp] theorem sx_lent (l : List D) : lenD (.tup l) = some (.int l.length) := rfl
@[simp] theorem sx_add (a b : Int) : addD (.int a) (.int b) = some (.int (a + b)) := rfl
@[simp] theorem sx_sub (a b : Int) : subD (.int a) (.int b) = some (.int (a - b)) := rfl
@[simp] theorem sx_neg (a : Int) : negD (.int a) = some (.int (-a)) := rfl
@[simp] theorem sx_lt (a b : Int) : ltD (.int a) (.int b) = some (decide (a < b)) := rfl
@[simp] theorem sx_le (a b : Int) : leD (.int a) (.int b) = some (decide (a ≤ b)) := rfl
@[simp] theorem sx_gt (a b : Int) : gtD (.int a) (.int b) = some (decide (b < a)) := rfl
@[simp] theorem sx_ge (a b : Int) : geD (.int a) (.int b) = some (decide (b ≤ a)) := rfl
@[simp] theorem sx_min (a b : Int) : minD (.int a) (.int b) = some (.int (if b < a then b else a)) := rfl
@[simp] theorem sx_max (a b : Int) : maxD (.int a) (.int b) = some (.int (if b > a then b else a)) := rfl
@[simp] theorem sx_list (l : List D) : listD (.lst l) = some l := rfl
@[simp] theorem sx_listT (l : List D) : listD (.tup l) = some l := rfl
@[simp] theorem sx_un2 (a b : D) : un2 (.tup [a, b]) = some (a, b) := rfl
@[simp] theorem sx_un3 (a b c : D) : un3 (.tup [a, b, c]) = some (a, b, c) := rfl
@[simp] theorem sx_un4 (a b c d : D) : un4 (.tup [a, b, c, d]) = some (a, b, c, d) := rfl
@[simp] theorem sx_isKs (a : List Nat) : isK (.str a) .str = some true := rfl
@[simp] theorem sx_isKl (a : List D) : isK (.lst a) .list = some true := rfl
@[simp] theorem sx_isKt (a : List D) : isK (.tup a) .tuple = some true := rfl
@[simp] theorem sx_intB (b : Bool) : intD (.bl b) = some (.int (if b then 1 else 0)) := rfl
@[simp] theorem sx_intI (b : Int) : intD (.int b) = some (.int b) := rfl
/-! small lists -/
theorem pigeon {α : Type} [DecidableEq α] : ∀ {a b : List α}, a.Nodup → (∀ x ∈ a, x ∈ b) → a.length ≤ b.length
  | [], _, _, _ => Nat.zero_le _
  | x :: r, b, nd, h => by
    have hx : x ∈ b := h x List.mem_cons_self
    rw [List.nodup_cons] at nd
    have := pigeon (a := r) (b := b.erase x) nd.2 fun y hy => by
      have : y ≠ x := fun e => nd.1 (e ▸ hy)
      exact (List.mem_erase_of_ne this).mpr (h y (List.mem_cons_of_mem _ hy))
    rw [List.length_erase_of_mem hx] at this
    have : 0 < b.length := List.length_pos_of_mem hx
    simp only [List.length_cons]; omega
theorem ix_neg1 {l : List D} {d : D} (h : l[l.length - 1]? = some d) (hl : 0 < l.length) : ixD (.lst l) (.int (-1)) = some d := by
  show L2.atI l _ = _
  unfold L2.atI L2.ixN
  rw [if_neg (by omega), if_pos (by omega), show ((-1 : Int) + l.length).toNat = l.length - 1 by omega]
  exact h
theorem ix_sn {s : List Nat} {i c : Nat} (h : s[i]? = some c) (hl : s.length ≤ 1000) : ixD (.str s) (.int (i : Nat)) = some (.str [c]) := ix_s h (by omega)
theorem slS_to {s : List Nat} {n : Nat} (h : n ≤ s.length) (hl : s.length ≤ 1000) : slS none (some (n : Nat)) (.str s) = some (.str (s.take n)) := by
  show (if s.length ≤ 16777216 then _ else none) = _
  rw [if_pos (by omega), cut_to _ _ h]
theorem slS_from {s : List Nat} {n : Nat} (h : n ≤ s.length) (hl : s.length ≤ 1000) : slS (some (n : Nat)) none (.str s) = some (.str (s.drop n)) := by
  show (if s.length ≤ 16777216 then _ else none) = _
  rw [if_pos (by omega), cut_from _ _ h]
theorem slL_to {s : List D} {n : Nat} (h : n ≤ s.length) : slL none (some (n : Nat)) (.lst s) = some (s.take n) := by
  show some (cut s _ _) = _
  rw [cut_to _ _ h]
theorem slL_from {s : List D} {n : Nat} (h : n ≤ s.length) : slL (some (n : Nat)) none (.lst s) = some (s.drop n) := by
  show some (cut s _ _) = _
  rw [cut_from _ _ h]
theorem strsD_map : ∀ l : List (List Nat), strsD (l.map D.str) = some l
  | [] => rfl
  | x :: r => by
    show (strsD (r.map D.str)).map (x :: ·) = _
    rw [strsD_map r]; rfl
theorem joinS_nil : ∀ l : List (List Nat), joinS [] l = l.flatten
  | [] => rfl
  | [x] => by simp [joinS]
  | x :: y :: r => by
    show x ++ [] ++ joinS [] (y :: r) = _
    rw [joinS_nil (y :: r)]; simp
theorem join_map {l : List (List Nat)} (h : (l.map List.length).sum ≤ 1000) : joinD (.str []) (.lst (l.map D.str)) = some (.str l.flatten) := by
  show (match strsD (l.map D.str) with | some ys => _ | none => none) = _
  rw [strsD_map]
  simp only
  rw [if_pos (by simp; omega), joinS_nil]
/-! draws out of a deck -/
def St3 (l : List D) : Prop := ∃ a b c : Int, l = [.int a, .int b, .int c]
structure Dk (d : List (List D) × D) : Prop where
  n0 : 0 < d.1.length
  n1 : d.1.length ≤ 1000
  c : ∃ c : Int, d.2 = .int c
  p : ∀ l ∈ d.1, St3 l
theorem Dk.set {d : List (List D) × D} (h : Dk d) (j : Nat) {l : List D} (hl : St3 l) (c : Int) : Dk (d.1.set j l, .int c) :=
  ⟨by simpa using h.n0, by simpa using h.n1, ⟨c, rfl⟩, fun x hx => by
    rcases List.mem_or_eq_of_mem_set hx with h1 | h1
    · exact h.p x h1
    · exact h1 ▸ hl⟩
end W
namespace W
open PySem VL
/-! a comprehension with its turn -/
theorem sat_fmSn {Z : Type} {f : Z → D → Res (Option D × Z)} {I : Nat → Z → List D → Prop} : ∀ (ds : List D) (z0 : Z) (acc : List D) (n : Nat), I n z0 acc → (∀ i z d acc, ds[i]? = some d → I (n + i) z acc → Sat (f z d) (fun o => I (n + i + 1) o.2 (accD acc o.1))) → Sat (fmS ds z0 f) (fun p => I (n + ds.length) p.2 (acc ++ p.1))
  | [], z0, acc, n, h0, _ => ⟨_, rfl, by show I (n + 0) z0 (acc ++ []); rw [List.append_nil]; exact h0⟩
  | d :: r, z0, acc, n, h0, h => by
    refine sat_rb (h 0 z0 d acc rfl h0) fun o ho => ?_
    have := sat_fmSn r o.2 (accD acc o.1) (n + 1) ho fun i z d acc e hi => by
      have := h (i + 1) z d acc (by simpa using e) (by rw [show n + (i + 1) = n + 1 + i by omega]; exact hi)
      rwa [show n + (i + 1) = n + 1 + i by omega] at this
    refine sat_rb this fun q hq => ⟨_, rfl, ?_⟩
    rw [show n + 1 + r.length = n + (d :: r).length by simp; omega] at hq
    cases e : o.1 with
    | none => rw [e] at hq; exact hq
    | some y =>
      rw [e] at hq
      have : acc ++ [y] ++ q.1 = acc ++ (y :: q.1) := by simp
      rw [← this]; exact hq
def rngL (n : Nat) : List D := (List.range n).map fun k => .int (k : Nat)
theorem rng_n {n : Nat} (h : n ≤ 16777216) : rngD (.int 0) (.int (n : Nat)) = some (rngL n) := rng0 h
theorem rngL_len (n : Nat) : (rngL n).length = n := by simp [rngL]
theorem rngL_get {n i : Nat} {d : D} (h : (rngL n)[i]? = some d) : i < n ∧ d = .int (i : Nat) := by
  have hi : i < n := by
    have := (List.getElem?_eq_some_iff.mp h).1
    simpa [rngL] using this
  refine ⟨hi, ?_⟩
  rw [rngL, List.getElem?_map, List.getElem?_range hi] at h
  cases h; rfl
/-! texts -/
def chD (c : Nat) : D := .str [c]
theorem strLD_eq {s : List Nat} (h : s.length ≤ 1000) : strLD (.str s) = some (s.map chD) := by
  show (if s.length ≤ 16777216 then _ else none) = _
  rw [if_pos (by omega)]; rfl
theorem strsD_ch : ∀ s : List Nat, strsD (s.map chD) = some (s.map fun c => [c])
  | [] => rfl
  | c :: r => by
    show (strsD (r.map chD)).map ([c] :: ·) = _
    rw [strsD_ch r]; rfl
theorem join_ch {s : List Nat} (h : s.length ≤ 1000) : joinD (.str []) (.lst (s.map chD)) = some (.str s) := by
  show (match strsD (s.map chD) with | some ys => _ | none => none) = _
  rw [strsD_ch]
  have e1 : ((s.map fun c => [c]).map List.length).sum = s.length := by
    clear h
    induction s with
    | nil => rfl
    | cons c r ih => simp at ih ⊢; omega
  have e2 : (s.map fun c => [c]).flatten = s := by
    clear h e1
    induction s with
    | nil => rfl
    | cons c r ih => simp at ih ⊢; exact ih
  simp only
  rw [if_pos (by rw [e1]; simp; omega), joinS_nil, e2]
def Low (s : List Nat) : Prop := ∀ c ∈ s, 97 ≤ c ∧ c ≤ 122
structure Word (w : List Nat) : Prop where
  l0 : 1 ≤ w.length
  l1 : w.length ≤ 8
  lo : Low w
theorem Low.app {a b : List Nat} (h : Low a) (k : Low b) : Low (a ++ b) := fun c hc => (List.mem_append.mp hc).elim (h c) (k c)
theorem Low.take {a : List Nat} (h : Low a) (n : Nat) : Low (a.take n) := fun c hc => h c (List.mem_of_mem_take hc)
theorem Low.drop {a : List Nat} (h : Low a) (n : Nat) : Low (a.drop n) := fun c hc => h c (List.mem_of_mem_drop hc)
theorem Low.one {c : Nat} (h : 97 ≤ c ∧ c ≤ 122) : Low [c] := fun x hx => by
  rw [List.mem_singleton] at hx; subst hx; exact h
def dn (l : List (List Nat)) : List D := l.map .str
theorem dn_len (l : List (List Nat)) : (dn l).length = l.length := by simp [dn]
theorem dn_get {l : List (List Nat)} {i : Nat} {w : List Nat} (h : l[i]? = some w) : (dn l)[i]? = some (.str w) := by simp [dn, h]
theorem dn_flat (l : List (List Nat)) : (dn l).all D.flat = true := by
  simp [dn, List.all_eq_true]; intro x _; rfl
theorem dn_plain (l : List (List Nat)) : D.plains (dn l) = true := by
  rw [plains_iff]
  intro d hd
  simp only [dn, List.mem_map] at hd
  obtain ⟨_, _, rfl⟩ := hd; rfl
theorem dn_dep (l : List (List Nat)) : D.deps (dn l) = 0 := by
  have := deps_le (l := dn l) (n := 0) fun d hd => by
    simp only [dn, List.mem_map] at hd
    obtain ⟨_, _, rfl⟩ := hd; exact Nat.zero_le _
  omega
theorem dn_app (a b : List (List Nat)) : dn (a ++ b) = dn a ++ dn b := by simp [dn]
theorem in_dn (w : List Nat) (l : List (List Nat)) : inD (.str w) (.lst (dn l)) = some (decide (w ∈ l)) := by
  show (if _ then _ else none) = _
  rw [if_pos ⟨rfl, dn_flat l⟩]
  congr 1
  rw [Bool.eq_iff_iff, List.any_eq_true, decide_eq_true_iff]
  constructor
  · rintro ⟨d, hd, e⟩
    simp only [dn, List.mem_map] at hd
    obtain ⟨v, hv, rfl⟩ := hd
    simp only [D.eqv, beq_iff_eq] at e
    exact e ▸ hv
  · intro h
    exact ⟨.str w, by simp only [dn, List.mem_map]; exact ⟨w, h, rfl⟩, by simp [D.eqv]⟩
theorem cat_dn {a b : List (List Nat)} (h : a.length + b.length ≤ 1000) : catD (.lst (dn a)) (.lst (dn b)) = some (dn (a ++ b)) := by
  rw [cat_l (by rw [dn_len, dn_len]; omega), dn_app]
theorem addS {a b : List Nat} (h : a.length + b.length ≤ 1000) : addD (.str a) (.str b) = some (.str (a ++ b)) := add_s (by omega)
end W
namespace W
open PySem VL
theorem eq_bl (a b : Bool) : eqD (.bl a) (.bl b) = some (a == b) := by
  unfold eqD
  rw [if_pos ⟨rfl, rfl, Nat.zero_le _⟩]
  simp [D.eqv]
@[simp] theorem sx_eqb (a b : Bool) : eqD (.bl a) (.bl b) = some (a == b) := eq_bl a b
@[simp] theorem sx_neb (a b : Bool) : neD (.bl a) (.bl b) = some (!(a == b)) := by unfold neD; rw [eq_bl]; rfl
end W

namespace W
open PySem VL
theorem draw_ok {d : List (List D) × D} {n : Nat} (h : Dk d) (h0 : 0 < n) (h1 : n < 1073741824) : Sat (m__law_draw d (.int (n : Nat))) (fun r => (∃ k : Nat, r.1 = .int (k : Nat) ∧ k < n) ∧ Dk r.2) := by
  obtain ⟨ps, c⟩ := d
  obtain ⟨n0, n1, ⟨c, hc⟩, hp⟩ := id h
  simp only at hc; subst hc
  unfold m__law_draw
  have hj : (c % (ps.length : Int)).toNat < ps.length := by
    have n0' : 0 < ps.length := n0
    have := Int.emod_nonneg c (show (ps.length : Int) ≠ 0 by omega)
    have := Int.emod_lt_of_pos c (show (0 : Int) < ps.length by omega)
    omega
  refine sat_ob (c := (c % (ps.length : Int)).toNat) (by simp only at n0 n1; simp only [poolJ]; rw [if_pos ⟨n0, by omega⟩]) ?_
  generalize (c % (ps.length : Int)).toNat = j at hj
  simp only [sx_add, sx_ob]
  obtain ⟨a, b, e, el⟩ := hp (ps.getD j []) (by rw [List.getD_eq_getElem?_getD, List.getElem?_eq_getElem hj]; exact List.getElem_mem hj)
  simp only [el, sx_l0, sx_l1, sx_l2, sx_ob, sx_eqi, sx_gt, sx_add]
  have tail : ∀ v : Int, Sat (Res.ok (D.int (v % (n : Int)), ps.set j [.int a, .int b, .int e], D.int (c + 1))) (fun r => (∃ k : Nat, r.1 = .int (k : Nat) ∧ k < n) ∧ Dk r.2) := fun v => by
    have b1 := Int.emod_nonneg v (show (n : Int) ≠ 0 by omega)
    have b2 := Int.emod_lt_of_pos v (show (0 : Int) < n by omega)
    exact sat_ok ⟨⟨(v % n).toNat, by rw [Int.toNat_of_nonneg b1], by omega⟩, h.set j ⟨a, b, e, rfl⟩ (c + 1)⟩
  refine sat_rb (P := fun _ => True) ?_ fun p _ => sat_if (fun _ => ?_) fun _ => ?_
  · exact sat_if (fun _ => sat_ok trivial) fun _ => sat_ok trivial
  · refine sat_ob (mod_i (by omega)) (sat_ob (fdiv_i (by omega)) (sat_ob (c := [.int (a / n), .int b, .int e]) rfl ?_))
    have b1 := Int.emod_nonneg a (show (n : Int) ≠ 0 by omega)
    have b2 := Int.emod_lt_of_pos a (show (0 : Int) < n by omega)
    exact sat_ok ⟨⟨(a % n).toNat, by rw [Int.toNat_of_nonneg b1], by omega⟩, h.set j ⟨_, _, _, rfl⟩ (c + 1)⟩
  · refine sat_ob (c := [.int a, .int b, .int (e + 1)]) rfl ?_
    simp only [sx_l0, sx_l2, sx_ob]
    refine sat_ob (mod_i (by decide)) (sat_ob (mul_l (by decide)) ?_)
    simp only [sx_add, sx_ob]
    refine sat_ob (mod_i (by decide)) ?_
    have b1 := Int.emod_nonneg (a % 99999999977 + 700001 * (e + 1)) (show (99999999947 : Int) ≠ 0 by decide)
    have b2 := Int.emod_lt_of_pos (a % 99999999977 + 700001 * (e + 1)) (show (0 : Int) < 99999999947 by decide)
    generalize (a % 99999999977 + 700001 * (e + 1)) % 99999999947 = x at b1 b2
    refine sat_ob (mul_l ⟨by omega, by omega⟩) (sat_ob (mod_i (by decide)) ?_)
    have b1 := Int.emod_nonneg (x * x) (show (99999999821 : Int) ≠ 0 by decide)
    have b2 := Int.emod_lt_of_pos (x * x) (show (0 : Int) < 99999999821 by decide)
    generalize x * x % 99999999821 = y at b1 b2
    simp only [sx_add, sx_ob]
    refine sat_ob (mul_l ⟨by omega, by omega⟩) (sat_ob (mod_i (by decide)) ?_)
    generalize y * (y + 19) % 9999999967 = z
    refine sat_ob (fdiv_i (by decide)) (sat_ob (mod_i (by omega)) ?_)
    have b1 := Int.emod_nonneg (z / 13) (show (n : Int) ≠ 0 by omega)
    have b2 := Int.emod_lt_of_pos (z / 13) (show (0 : Int) < n by omega)
    exact sat_ok ⟨⟨(z / 13 % n).toNat, by rw [Int.toNat_of_nonneg b1], by omega⟩, h.set j ⟨_, _, _, rfl⟩ (c + 1)⟩
theorem ints_len (ns : List Int) : lenD (.lst (ns.map .int)) = some (.int ns.length) := by rw [sx_len, List.length_map]
theorem deck_ok (ns : List Int) (h : ns.length ≤ 63) : Sat (m__law_deck (.lst (ns.map .int))) Dk := by
  unfold m__law_deck
  refine sat_ob (ints_len ns) ?_
  simp only [sx_min, sx_max, sx_ob]
  obtain ⟨m, hm, m0, m1⟩ : ∃ m : Nat, (if (if (ns.length : Int) < 63 then (ns.length : Int) else 63) > 1 then (if (ns.length : Int) < 63 then (ns.length : Int) else 63) else 1) = (m : Nat) ∧ 0 < m ∧ m ≤ 63 := by
    refine ⟨max 1 (min 63 ns.length), ?_, by omega, by omega⟩
    split <;> split <;> omega
  rw [hm]
  refine sat_ob (rng0 (by omega)) ?_
  refine sat_rb (P := fun z => z.length = m ∧ ∀ l ∈ z, St3 l) ?_ fun z ⟨hz, hs⟩ => sat_ok ⟨by show 0 < z.length; omega, by show z.length ≤ 1000; omega, ⟨0, rfl⟩, hs⟩
  have key := sat_forN (Z := List (List D)) (I := fun i z => z.length = i ∧ ∀ l ∈ z, St3 l) (f := fun z2 d1 => rb (ob (lenD (.lst (ns.map .int))) fun t12 => ob (ltD d1 t12) fun t11 => if t11 = true then ob (ixD (.lst (ns.map .int)) d1) fun t13 => .ok t13 else .ok (.int 0) : Res D) fun z10 => ob (powD (.int 10) (.int 18)) fun t17 => ob (geD z10 t17) fun t16 => ob (intD (.bl t16)) fun t15 => ob (mulD (.int 31) d1) fun t18 => (if ((z2).map VL.T.l).length < 16777216 then .ok (z2 ++ [[z10, t15, t18]]) else .fail)) ((List.range m).map fun k => D.int (k : Nat)) [] 0 ⟨rfl, fun _ h => by cases h⟩ (fun i z d e ⟨h1, h2⟩ => ?_)
  · refine Sat.mono key fun z hz => ?_
    simpa using hz
  · have hi : i < m := by
      have := (List.getElem?_eq_some_iff.mp e).1
      simpa using this
    have hd : d = .int (i : Nat) := by
      rw [List.getElem?_map, List.getElem?_range hi] at e
      cases e; rfl
    subst hd
    refine sat_rb (P := fun x => ∃ c : Int, x = .int c) ?_ fun x ⟨c, hx⟩ => ?_
    · refine sat_ob (ints_len ns) ?_
      simp only [sx_lt, sx_ob]
      refine sat_if (fun hk => ?_) fun _ => sat_ok ⟨0, rfl⟩
      have hk' : i < ns.length := by have := of_decide_eq_true hk; omega
      exact sat_ob (c := D.int ns[i]) (ix_l (by rw [List.getElem?_map, List.getElem?_eq_getElem hk']; rfl)) (sat_ok ⟨_, rfl⟩)
    · subst hx
      refine sat_ob (c := D.int (10 ^ 18)) rfl ?_
      simp only [sx_ge, sx_ob, sx_intB]
      refine sat_ob (mul_l (by decide)) ?_
      rw [if_pos (by rw [List.length_map]; omega)]
      refine sat_ok ⟨by simp [h1], fun l hl => ?_⟩
      rcases List.mem_append.mp hl with hl | hl
      · exact h2 l hl
      · rw [List.mem_singleton] at hl
        exact ⟨_, _, _, hl⟩
end W

namespace W
open PySem VL
abbrev abc : List Nat := [97, 98, 99, 100, 101, 102, 103, 104, 105, 106, 107, 108, 109, 110, 111, 112, 113, 114, 115, 116, 117, 118, 119, 120, 121, 122]
theorem abc_get {k : Nat} (h : k < 26) : ixD (.str abc) (.int (k : Nat)) = some (.str [97 + k]) := by
  refine ix_sn ?_ (by decide)
  have : ∀ k : Fin 26, abc[k.1]? = some (97 + k.1) := by decide
  exact this ⟨k, h⟩
/-- one drawn letter -/
theorem letter_ok {d : List (List D) × D} (h : Dk d) {β : Type} {g : D → List (List D) × D → Res β} {Q : β → Prop} (hk : ∀ c d', 97 ≤ c ∧ c ≤ 122 → Dk d' → Sat (g (chD c) d') Q) : Sat (rb (m__law_draw d (.int 26)) fun r => ob (ixD (.str q_abcdefghijklmnopqrstuvwxyz) r.1) fun t => g t r.2) Q := by
  refine sat_rb (draw_ok (n := 26) h (by decide) (by decide)) fun r ⟨⟨k, e, hk'⟩, dk⟩ => ?_
  rw [e]
  exact sat_ob (abc_get hk') (hk _ _ ⟨by omega, by omega⟩ dk)
/-- so many drawn letters -/
theorem letters_ok {d : List (List D) × D} (h : Dk d) (n : Nat) : Sat (fmS (rngL n) d fun z _ => rb (m__law_draw z (.int 26)) fun r => ob (ixD (.str q_abcdefghijklmnopqrstuvwxyz) r.1) fun t => .ok (some t, r.2)) (fun p => Dk p.2 ∧ ∃ s : List Nat, p.1 = s.map chD ∧ s.length = n ∧ Low s) := by
  have := sat_fmSn (f := fun z _ => rb (m__law_draw z (.int 26)) fun r => ob (ixD (.str q_abcdefghijklmnopqrstuvwxyz) r.1) fun t => .ok (some t, r.2)) (I := fun i z acc => Dk z ∧ ∃ s : List Nat, acc = s.map chD ∧ s.length = i ∧ Low s) (rngL n) d [] 0 ⟨h, [], rfl, rfl, fun c hc => by cases hc⟩ fun i z x acc _ ⟨hz, s, e, hl, lo⟩ => by
    refine letter_ok (g := fun t d' => .ok (some t, d')) hz fun c d' hc hd => sat_ok ⟨hd, s ++ [c], ?_, by simp [hl], lo.app (.one hc)⟩
    show acc ++ [chD c] = _
    rw [e]; simp
  refine Sat.mono this fun p ⟨a, s, e, hl, lo⟩ => ⟨a, s, by simpa using e, by rw [hl, rngL_len]; omega, lo⟩
def rep8 (t : Nat) : List Nat := List.replicate 8 (97 + t)
theorem rep8_word {t : Nat} (h : t < 26) : Word (rep8 t) := ⟨by simp [rep8], by simp [rep8], fun c hc => by
  simp only [rep8, List.mem_replicate] at hc
  omega⟩
theorem rep8_inj {a b : Nat} (h : rep8 a = rep8 b) : a = b := by
  have := congrArg (fun l : List Nat => l.getD 0 0) h
  simp [rep8] at this
  exact this
theorem mulS_8 (t : Nat) : mulS (.str [97 + t]) (.int 8) = some (.str (rep8 t)) := by
  show (if 0 ≤ (8 : Int) ∧ (8 : Int) ≤ 1000000 ∧ [97 + t].length * (8 : Int).toNat ≤ 16777216 then some (D.str (List.replicate (8 : Int).toNat [97 + t]).flatten) else none) = _
  rw [if_pos ⟨by decide, by decide, by simp⟩]
  rfl
/-- a name that is not among the found ones -/
theorem fresh_ok (found : List (List Nat)) (hl : found.length ≤ 20) (w : List Nat) (hw : Word w) :
    Sat (whileN (Z := (D × D)) FU (.str w, .int 0) (fun z => ob (inD z.1 (.lst (dn found))) fun t => .ok t) fun z => ob (ixD (.str q_abcdefghijklmnopqrstuvwxyz) z.2) fun t89 => ob (mulS t89 (.int 8)) fun t88 => ob (addD z.2 (.int 1)) fun t90 => .ok (t88, t90))
      (fun z => ∃ v, z.1 = .str v ∧ Word v ∧ v ∉ found) := by
  let I : D × D → Prop := fun z => ∃ (v : List Nat) (t : Nat), z = (.str v, .int (t : Nat)) ∧ Word v ∧ (∀ j, j + 1 < t → rep8 j ∈ found) ∧ (0 < t → v = rep8 (t - 1)) ∧ t ≤ 21
  let μ : D × D → Nat := fun z => match z.2 with | .int t => 30 - t.toNat | _ => 0
  refine Sat.mono (sat_whileN (I := I) (E := fun z => ∀ v, z.1 = .str v → v ∉ found) (μ := μ) (fun z ⟨v, t, e, wv, hj, ht, hb⟩ => ?_) FU _ ⟨w, 0, rfl, hw, fun j hj => absurd hj (by omega), fun h => absurd h (by omega), by omega⟩ (by show 30 - _ < FU; unfold FU; omega)) fun z ⟨⟨v, t, e, wv, _⟩, hE⟩ => ⟨v, by rw [e], wv, hE v (by rw [e])⟩
  subst e
  by_cases hin : v ∈ found
  · refine .inr ⟨by show ob (inD (.str v) (.lst (dn found))) _ = _; rw [in_dn]; simp [hin], ?_⟩
    have all : ∀ j, j < t → rep8 j ∈ found := fun j hj' => by
      by_cases h : j + 1 < t
      · exact hj j h
      · have : j = t - 1 := by omega
        rw [this, ← ht (by omega)]; exact hin
    have tb : t ≤ found.length := by
      have := pigeon (a := (List.range t).map rep8) (b := found) (by
        rw [List.nodup_iff_pairwise_ne, List.pairwise_map]
        exact List.Pairwise.imp (fun h e => h (rep8_inj e)) List.nodup_range) fun x hx => by
          simp only [List.mem_map, List.mem_range] at hx
          obtain ⟨j, hj', rfl⟩ := hx
          exact all j hj'
      simpa using this
    refine sat_ob (abc_get (by omega)) (sat_ob (mulS_8 t) ?_)
    · refine sat_ok ⟨⟨rep8 t, t + 1, rfl, rep8_word (by omega), fun j hj' => all j (by omega), fun _ => rfl, by omega⟩, ?_⟩
      show 30 - ((t : Int) + 1).toNat < 30 - ((t : Nat) : Int).toNat
      omega
  · refine .inl ⟨by show ob (inD (.str v) (.lst (dn found))) _ = _; rw [in_dn]; simp [hin], fun v' e => by cases e; exact hin⟩
theorem names_ok {d : List (List D) × D} (h : Dk d) {many : Nat} (hm : many ≤ 20) : Sat (m__law_names d (.int (many : Nat))) (fun r => ∃ ns : List (List Nat), r.1 = dn ns ∧ ns.length = many ∧ ns.Nodup ∧ (∀ w ∈ ns, Word w) ∧ Dk r.2) := by
  unfold m__law_names
  refine sat_ob rfl (sat_ob (rng_n (n := 7) (by decide)) (sat_rb (letters_ok h 7) fun p5 ⟨dk5, stem, e5, l5, lo5⟩ => ?_))
  rw [e5]
  refine sat_ob (join_ch (by omega)) (sat_ob (rng_n (by omega)) ?_)
  let I : Nat → ((List (List D) × D) × List D) → Prop := fun i z => Dk z.1 ∧ ∃ ns : List (List Nat), z.2 = dn ns ∧ ns.length = i ∧ ns.Nodup ∧ ∀ w ∈ ns, Word w
  refine sat_rb (sat_forN (I := I) (rngL many) (p5.2, []) 0 ⟨dk5, [], rfl, rfl, List.nodup_nil, fun w hw => by cases hw⟩ fun i z x hx hz => ?_) fun z ⟨dk, ns, e, hl, nd, hw⟩ => sat_ok ⟨ns, e, by rw [hl, rngL_len]; omega, nd, hw, dk⟩
  obtain ⟨z1, z2⟩ := z
  obtain ⟨dk1, ns, e, hl, nd, hws⟩ := hz
  dsimp only at e dk1
  subst e
  have hi := (rngL_get hx).1
  dsimp only
  refine sat_rb (draw_ok (n := 4) dk1 (by decide) (by decide)) fun r ⟨⟨way, ew, _⟩, dk2⟩ => ?_
  refine sat_ob rfl (sat_rb (draw_ok (n := 8) dk2 (by decide) (by decide)) fun r2 ⟨⟨m, em, hm2⟩, dk3⟩ => ?_)
  rw [em, ew]
  refine sat_ob (c := D.int ((m + 1 : Nat) : Int)) (by rw [sx_add]; congr 2; omega) (sat_ob (rng_n (by omega)) (sat_rb (letters_ok dk3 (m + 1)) fun p ⟨dk4, s, es, ls, lo⟩ => ?_))
  rw [es]
  refine sat_ob (join_ch (by omega)) ?_
  have ws : Word s := ⟨by omega, by omega, lo⟩
  simp only [sx_eqi, sx_ob]
  -- stem
  refine sat_rb (P := fun z => Dk z.2 ∧ ∃ w, z.1 = .str w ∧ Word w) (sat_if (fun _ => ?_) fun _ => sat_ok ⟨dk4, s, rfl, ws⟩) fun z30 ⟨dk30, w30, e30, hw30⟩ => ?_
  · refine sat_rb (draw_ok (n := 8) dk4 (by decide) (by decide)) fun r ⟨⟨a, ea, ha⟩, dk⟩ => ?_
    rw [ea]
    refine sat_ob rfl (sat_ob (slS_to (by omega) (by omega)) ?_)
    refine letter_ok (g := fun t36 d' => ob (addD (.str (stem.take a)) t36) fun t32 => .ok (t32, d')) dk fun c d' hc hd => ?_
    refine sat_ob (addS (by simp; omega)) (sat_ok ⟨hd, _, rfl, by simp, by simp; omega, (lo5.take a).app (.one hc)⟩)
  -- the last one, changed
  refine sat_rb (P := fun z => Dk z.1 ∧ ∃ w, z.2 = .str w ∧ Word w) ?_ fun z58 ⟨dk58, w58, e58, hw58⟩ => ?_
  · refine sat_rb (P := fun p => p.1 = true → 0 < ns.length) (sat_if (fun _ => ?_) fun _ => sat_ok fun h => by cases h) fun p59 hp59 => sat_if (fun hp => ?_) fun _ => sat_ok ⟨dk30, w30, e30, hw30⟩
    · refine sat_ob (ne_nil (dn_plain ns) (by rw [dn_dep]; omega)) (sat_ok fun h => ?_)
      cases ns with
      | nil => cases h
      | cons _ _ => simp
    · have hpos := hp59 hp
      obtain ⟨last, hlast⟩ : ∃ last, ns[ns.length - 1]? = some last := ⟨_, List.getElem?_eq_getElem (by omega)⟩
      have hwl := hws last (List.mem_of_getElem? hlast)
      have ixl : ixD (.lst (dn ns)) (.int (-1)) = some (.str last) := ix_neg1 (by rw [dn_len]; exact dn_get hlast) (by rw [dn_len]; exact hpos)
      have l0 := hwl.l0
      have l1 := hwl.l1
      simp only [sx_neg, sx_ob, ixl]
      refine sat_ob (len_s (by omega)) (sat_rb (draw_ok dk30 hwl.l0 (by omega)) fun r ⟨⟨a, ea, ha⟩, dk⟩ => ?_)
      rw [ea]
      refine sat_ob rfl (sat_ob (slS_to (by omega) (by omega)) ?_)
      refine letter_ok (g := fun t72 d' => ob (addD (.str (last.take a)) t72) fun t67 => ob (addD (.int (a : Nat)) (.int 1)) fun t78 => ob (asI t78) fun t77 => ob (slS (some t77) none (.str last)) fun t74 => ob (addD t67 t74) fun t66 => .ok (d', t66)) dk fun c d' hc hd => ?_
      refine sat_ob (addS (by simp; omega)) ?_
      simp only [sx_add, sx_ob, sx_asI]
      rw [show ((a : Int) + 1) = ((a + 1 : Nat) : Int) by omega]
      refine sat_ob (slS_from (by omega) (by omega)) (sat_ob (addS (by simp; omega)) (sat_ok ⟨hd, _, rfl, by simp; omega, by simp; omega, ((hwl.lo.take a).app (.one hc)).app (hwl.lo.drop _)⟩))
  -- a word of rules
  refine sat_rb (P := fun z => Dk z.2 ∧ ∃ w, z.1 = .str w ∧ Word w) (sat_if (fun _ => ?_) fun _ => sat_ok ⟨dk58, w58, e58, hw58⟩) fun z82 ⟨dk82, w82, e82, hw82⟩ => ?_
  · refine sat_rb (draw_ok (n := 7) dk58 (by decide) (by decide)) fun r ⟨⟨a, ea, ha⟩, dk⟩ => ?_
    rw [ea]
    have : ∃ w, ixD (.lst [(.str q_a), (.str q_wire), (.str q_not), (.str q_and), (.str q_or), (.str q_zzzzzzzz), (.str q_in)]) (.int (a : Nat)) = some (.str w) ∧ Word w := by
      have key : ∀ k : Fin 7, ∃ w, ([q_a, q_wire, q_not, q_and, q_or, q_zzzzzzzz, q_in] : List (List Nat))[k.1]? = some w ∧ (1 ≤ w.length ∧ w.length ≤ 8 ∧ ∀ c ∈ w, 97 ≤ c ∧ c ≤ 122) := by
        intro k
        match k with
        | 0 => exact ⟨_, rfl, by decide⟩
        | 1 => exact ⟨_, rfl, by decide⟩
        | 2 => exact ⟨_, rfl, by decide⟩
        | 3 => exact ⟨_, rfl, by decide⟩
        | 4 => exact ⟨_, rfl, by decide⟩
        | 5 => exact ⟨_, rfl, by decide⟩
        | 6 => exact ⟨_, rfl, by decide⟩
      obtain ⟨w, e, h1, h2, h3⟩ := key ⟨a, ha⟩
      exact ⟨w, ix_l (l := dn [q_a, q_wire, q_not, q_and, q_or, q_zzzzzzzz, q_in]) (dn_get e), h1, h2, h3⟩
    obtain ⟨w, e, hw⟩ := this
    exact sat_ob e (sat_ok ⟨dk, w, rfl, hw⟩)
  rw [e82]
  refine sat_rb (fresh_ok ns (by omega) w82 hw82) fun z ⟨v, ev, hv, hn⟩ => ?_
  rw [ev]
  refine sat_ob (ap_l (by rw [dn_len]; omega)) (sat_ok ⟨dk82, ns ++ [v], by simp [dn], by simp [hl], ?_, fun w hw => ?_⟩)
  · rw [List.nodup_append]
    exact ⟨nd, by simp, fun x hx y hy => by simp at hy; subst hy; intro e; subst e; exact hn hx⟩
  · rcases List.mem_append.mp hw with h | h
    · exact hws w h
    · rw [List.mem_singleton.mp h]; exact hv
end W

namespace W
open PySem VL
/-! rules -/
inductive Rl where
  | wire (n : List Nat) | neg (r : Rl) | conj (a b : Rl) | disj (a b : Rl)
def Rl.d : Rl → D
  | .wire n => .tup [.str q_wire, .str n]
  | .neg r => .tup [.str q_not, r.d]
  | .conj a b => .tup [.str q_and, a.d, b.d]
  | .disj a b => .tup [.str q_or, a.d, b.d]
def Rl.dp : Rl → Nat
  | .wire _ => 1
  | .neg r => r.dp + 1
  | .conj a b => max a.dp b.dp + 1
  | .disj a b => max a.dp b.dp + 1
def Rl.over (ns : List (List Nat)) : Rl → Prop
  | .wire n => n ∈ ns
  | .neg r => r.over ns
  | .conj a b => a.over ns ∧ b.over ns
  | .disj a b => a.over ns ∧ b.over ns
theorem Rl.plain : ∀ r : Rl, r.d.plain = true
  | .wire _ => rfl
  | .neg r => by simp [Rl.d, D.plain, D.plains, Rl.plain r]
  | .conj a b => by simp [Rl.d, D.plain, D.plains, Rl.plain a, Rl.plain b]
  | .disj a b => by simp [Rl.d, D.plain, D.plains, Rl.plain a, Rl.plain b]
theorem Rl.depth : ∀ r : Rl, r.d.dep ≤ r.dp
  | .wire _ => by simp [Rl.d, D.dep, D.deps, Rl.dp]
  | .neg r => by have := Rl.depth r; simp [Rl.d, D.dep, D.deps, Rl.dp]; omega
  | .conj a b => by have := Rl.depth a; have := Rl.depth b; simp [Rl.d, D.dep, D.deps, Rl.dp]; omega
  | .disj a b => by have := Rl.depth a; have := Rl.depth b; simp [Rl.d, D.dep, D.deps, Rl.dp]; omega
theorem rule_ok (ns : List (List Nat)) (n0 : 0 < ns.length) (n1 : ns.length ≤ 1000) : ∀ (fu deep : Nat) (d : List (List D) × D), Dk d → 1 ≤ deep → deep ≤ fu → Sat (m__law_rule fu d (.lst (dn ns)) (.int (deep : Nat))) (fun r => ∃ R : Rl, r.1 = R.d ∧ R.dp ≤ deep ∧ R.over ns ∧ Dk r.2)
  | 0, deep, d, h, h1, h2 => by omega
  | fu + 1, deep, d, h, h1, h2 => by
    unfold m__law_rule
    refine sat_rb (draw_ok (n := 6) h (by decide) (by decide)) fun r1 ⟨⟨kind, ek, hk⟩, dk1⟩ => ?_
    rw [ek]
    simp only [sx_eqi, sx_lt, sx_ob, sx_sub, sx_len, dn_len]
    refine sat_rb (P := fun p => p.1 = false → deep ≠ 1) (sat_if (fun _ => sat_ok fun h => by cases h) fun hd => sat_ok fun _ e => hd (by simp; omega)) fun p2 hp2 => sat_if (fun _ => ?_) fun hf => ?_
    · refine sat_rb (draw_ok dk1 n0 (by omega)) fun r ⟨⟨i, ei, hi⟩, dk⟩ => ?_
      rw [ei]
      exact sat_ob (ix_l (dn_get (List.getElem?_eq_getElem hi))) (sat_ok ⟨.wire ns[i], rfl, h1, List.getElem_mem hi, dk⟩)
    · have hne := hp2 (by simpa using hf)
      rw [show ((deep : Int) - 1) = ((deep - 1 : Nat) : Int) by omega]
      refine sat_rb (rule_ok ns n0 n1 fu (deep - 1) r1.2 dk1 (by omega) (by omega)) fun r8 ⟨A, eA, pA, oA, dk8⟩ => ?_
      rw [eA]
      refine sat_if (fun _ => sat_ok ⟨.neg A, rfl, by simp only [Rl.dp]; omega, oA, dk8⟩) fun _ => ?_
      refine sat_rb (draw_ok (n := 2) dk8 (by decide) (by decide)) fun r12 ⟨⟨w, ew, hw⟩, dk12⟩ => ?_
      rw [ew]
      have : ∃ b : Bool, ixD (.lst [(.str q_and), (.str q_or)]) (.int (w : Nat)) = some (.str (if b then q_and else q_or)) := by
        match w, hw with
        | 0, _ => exact ⟨true, ix_l (i := 0) rfl⟩
        | 1, _ => exact ⟨false, ix_l (i := 1) rfl⟩
      obtain ⟨b, eb⟩ := this
      refine sat_ob eb (sat_rb (rule_ok ns n0 n1 fu (deep - 1) r12.2 dk12 (by omega) (by omega)) fun r13 ⟨B, eB, pB, oB, dk13⟩ => ?_)
      rw [eB]
      cases b with
      | true => exact sat_ok ⟨.conj A B, rfl, by simp only [Rl.dp]; omega, ⟨oA, oB⟩, dk13⟩
      | false => exact sat_ok ⟨.disj A B, rfl, by simp only [Rl.dp]; omega, ⟨oA, oB⟩, dk13⟩
/-! nets -/
structure Nt where
  ins : List (List Nat)
  gs : List (List Nat × Rl)
def gD (g : List Nat × Rl) : D := .tup [.str g.1, g.2.d]
def Nt.d (n : Nt) : D := .tup [.lst (dn n.ins), .lst (n.gs.map gD)]
def Nt.gn (n : Nt) : List (List Nat) := n.gs.map (·.1)
def Nt.ws (n : Nt) : List (List Nat) := n.ins ++ n.gn
structure Nt.Ok (n : Nt) : Prop where
  i : n.ins.length ≤ 4
  g0 : 1 ≤ n.gs.length
  g1 : n.gs.length ≤ 7
  nd : n.ws.Nodup
  w : ∀ x ∈ n.ws, Word x
  r : ∀ g ∈ n.gs, g.2.dp ≤ 10 ∧ g.2.over n.ws
theorem Nt.ws_len (n : Nt) : n.ws.length = n.ins.length + n.gs.length := by simp [Nt.ws, Nt.gn]
theorem gs_plain (gs : List (List Nat × Rl)) : D.plains (gs.map gD) = true := by
  rw [plains_iff]
  intro d hd
  simp only [List.mem_map] at hd
  obtain ⟨g, _, rfl⟩ := hd
  simp [gD, D.plain, D.plains, Rl.plain]
theorem gs_dep {gs : List (List Nat × Rl)} (h : ∀ g ∈ gs, g.2.dp ≤ 20) : D.deps (gs.map gD) ≤ 21 := by
  refine deps_le fun d hd => ?_
  simp only [List.mem_map] at hd
  obtain ⟨g, hg, rfl⟩ := hd
  have := Rl.depth g.2
  have := h g hg
  simp [gD, D.dep, D.deps]; omega
theorem Nt.plain (n : Nt) : n.d.plain = true := by
  simp only [Nt.d, D.plain, D.plains, Bool.and_true, Bool.and_eq_true]
  exact ⟨dn_plain _, gs_plain _⟩
theorem Nt.dep {n : Nt} (h : n.Ok) : n.d.dep ≤ 60 := by
  have := gs_dep (gs := n.gs) fun g hg => by have := (h.r g hg).1; omega
  simp only [Nt.d, D.dep, D.deps, dn_dep]
  omega
def pos5 : List Rl := [.wire q_a, .wire q_b, .wire q_c, .wire q_d, .wire q_e]
def heldR (a b c : Rl) : Rl := .disj (.conj a b) (.conj c (.disj a b))
def known : Nat → Nt
  | 0 => ⟨[q_a, q_b], [(q_c, heldR (.wire q_a) (.wire q_b) (.wire q_c))]⟩
  | 1 => ⟨[], [(q_a, .neg (.wire q_c)), (q_b, .neg (.wire q_a)), (q_c, .neg (.wire q_b))]⟩
  | 2 => ⟨[q_a, q_b], [(q_c, .neg (.disj (.wire q_a) (.wire q_d))), (q_d, .neg (.disj (.wire q_b) (.wire q_c)))]⟩
  | _ => ⟨[q_a, q_e], [(q_b, heldR (.wire q_a) (.neg (.wire q_c)) (.wire q_b)), (q_c, heldR (.wire q_b) (.neg (.wire q_d)) (.wire q_c)), (q_d, heldR (.wire q_c) (.neg (.wire q_e)) (.wire q_d))]⟩
theorem known_fits : ∀ k, k < 4 → (known k).Ok := by
  intro k hk
  match k, hk with
  | 0, _ => exact ⟨by decide, by decide, by decide, by decide, fun x hx => by
      simp only [known, Nt.ws, Nt.gn, List.map, List.mem_append, List.mem_cons, List.not_mem_nil, or_false] at hx
      rcases hx with (h | h) | h <;> (subst h; exact ⟨by decide, by decide, fun c hc => by simp at hc; omega⟩), fun g hg => by
      simp only [known, List.mem_cons, List.not_mem_nil, or_false] at hg
      subst hg; simp [known, heldR, Rl.dp, Rl.over, Nt.ws, Nt.gn]⟩
  | 1, _ => exact ⟨by decide, by decide, by decide, by decide, fun x hx => by
      simp only [known, Nt.ws, Nt.gn, List.map, List.mem_append, List.mem_cons, List.not_mem_nil, or_false, false_or] at hx
      rcases hx with h | h | h <;> (subst h; exact ⟨by decide, by decide, fun c hc => by simp at hc; omega⟩), fun g hg => by
      simp only [known, List.mem_cons, List.not_mem_nil, or_false] at hg
      rcases hg with h | h | h <;> (subst h; simp [known, Rl.dp, Rl.over, Nt.ws, Nt.gn])⟩
  | 2, _ => exact ⟨by decide, by decide, by decide, by decide, fun x hx => by
      simp only [known, Nt.ws, Nt.gn, List.map, List.mem_append, List.mem_cons, List.not_mem_nil, or_false] at hx
      rcases hx with (h | h) | h | h <;> (subst h; exact ⟨by decide, by decide, fun c hc => by simp at hc; omega⟩), fun g hg => by
      simp only [known, List.mem_cons, List.not_mem_nil, or_false] at hg
      rcases hg with h | h <;> (subst h; simp [known, Rl.dp, Rl.over, Nt.ws, Nt.gn])⟩
  | 3, _ => exact ⟨by decide, by decide, by decide, by decide, fun x hx => by
      simp only [known, Nt.ws, Nt.gn, List.map, List.mem_append, List.mem_cons, List.not_mem_nil, or_false] at hx
      rcases hx with (h | h) | h | h | h <;> (subst h; exact ⟨by decide, by decide, fun c hc => by simp at hc; omega⟩), fun g hg => by
      simp only [known, List.mem_cons, List.not_mem_nil, or_false] at hg
      rcases hg with h | h | h <;> (subst h; simp [known, heldR, Rl.dp, Rl.over, Nt.ws, Nt.gn])⟩
theorem known_ok {d : List (List D) × D} (h : Dk d) : Sat (m__law_known d) (fun r => ∃ N : Nt, r.1 = N.d ∧ N.Ok ∧ Dk r.2) := by
  unfold m__law_known
  refine sat_rb (draw_ok (n := 4) h (by decide) (by decide)) fun r1 ⟨⟨kind, ek, hk⟩, dk1⟩ => ?_
  rw [ek]
  refine sat_ob rfl (sat_rbe (fmR_map (g := fun d => D.tup [(.str q_wire), d]) _ fun _ _ => rfl) ?_)
  refine sat_ob (c := pos5.map Rl.d) rfl ?_
  simp only [sx_eqi, sx_ob]
  have fin : ∀ k, k < 4 → Sat (Res.ok ((known k).d, r1.2)) (fun r => ∃ N : Nt, r.1 = N.d ∧ N.Ok ∧ Dk r.2) := fun k hk => sat_ok ⟨_, rfl, known_fits k hk, dk1⟩
  refine sat_if (fun _ => ?_) fun _ => sat_if (fun _ => ?_) fun _ => sat_if (fun _ => ?_) fun _ => ?_
  · exact fin 0 (by decide)
  · exact fin 1 (by decide)
  · exact fin 2 (by decide)
  · exact fin 3 (by decide)
theorem net_ok {d : List (List D) × D} (h : Dk d) : Sat (m__law_net d) (fun r => ∃ N : Nt, r.1 = N.d ∧ N.Ok ∧ Dk r.2) := by
  unfold m__law_net
  refine sat_rb (draw_ok (n := 5) h (by decide) (by decide)) fun r2 ⟨⟨z, ez, hz⟩, dk2⟩ => ?_
  rw [ez, sx_eqi]
  refine sat_if (fun _ => sat_rb (known_ok dk2) fun r q => sat_ok q) fun _ => ?_
  refine sat_rb (draw_ok (n := 5) dk2 (by decide) (by decide)) fun r4 ⟨⟨i, ei, hi⟩, dk4⟩ => ?_
  refine sat_rb (draw_ok (n := 7) dk4 (by decide) (by decide)) fun r6 ⟨⟨g, eg, hg⟩, dk6⟩ => ?_
  rw [ei, eg]
  simp only [sx_add, sx_ob, sx_asI]
  rw [show ((i : Int) + (1 + (g : Int))) = ((i + (1 + g) : Nat) : Int) by omega]
  refine sat_rb (names_ok dk6 (by omega)) fun r7 ⟨ns, en, ln, nd, hw, dk7⟩ => ?_
  rw [en]
  refine sat_ob (slL_from (by rw [dn_len]; omega)) (sat_ob rfl ?_)
  have e1 : (dn ns).drop i = dn (ns.drop i) := by simp [dn]
  have e2 : (dn ns).take i = dn (ns.take i) := by simp [dn]
  rw [e1]
  let I : Nat → ((List (List D) × D) × List D) → Prop := fun k z => Dk z.1 ∧ ∃ gs : List (List Nat × Rl), z.2 = gs.map gD ∧ gs.length = k ∧ (gs.map (·.1)) = (ns.drop i).take k ∧ ∀ g ∈ gs, g.2.dp ≤ 10 ∧ g.2.over ns
  refine sat_rb (sat_forN (I := I) (dn (ns.drop i)) (r7.2, []) 0 ⟨dk7, [], rfl, rfl, by simp, fun g hg => by cases hg⟩ fun k z x hx hz => ?_) fun z ⟨dk, gs, e, hl, hn, hr⟩ => ?_
  · obtain ⟨z1, z2⟩ := z
    obtain ⟨dk1, gs, e, hl, hn, hr⟩ := hz
    dsimp only at e dk1
    subst e
    dsimp only
    rw [Nat.zero_add] at hl hn
    obtain ⟨w, ew, hwx⟩ : ∃ w, (ns.drop i)[k]? = some w ∧ x = .str w := by
      simp only [dn, List.getElem?_map] at hx
      cases e : (ns.drop i)[k]? with
      | none => rw [e] at hx; cases hx
      | some w => rw [e] at hx; cases hx; exact ⟨w, rfl, rfl⟩
    subst hwx
    refine sat_ob (eq_nil (gs_plain gs)) (sat_ob (sx_intB _) ?_)
    obtain ⟨m, em, hm⟩ : ∃ m : Nat, ixD (.lst [(.int 4), (.int 10)]) (.int (if (gs.map gD).isEmpty then 1 else 0)) = some (.int (m : Nat)) ∧ (m = 4 ∨ m = 10) := by
      cases (gs.map gD).isEmpty with
      | true => exact ⟨10, sx_l1, .inr rfl⟩
      | false => exact ⟨4, sx_l0, .inl rfl⟩
    refine sat_ob em (sat_rb (draw_ok (n := 3) dk1 (by decide) (by decide)) fun r18 ⟨⟨v, ev, hv⟩, dk18⟩ => ?_)
    rw [ev]
    obtain ⟨u, eu, hu⟩ : ∃ u : Nat, ixD (.lst [(.int 3), (.int 4), (.int (m : Nat))]) (.int (v : Nat)) = some (.int (u : Nat)) ∧ 1 ≤ u ∧ u ≤ 10 := by
      match v, hv with
      | 0, _ => exact ⟨3, sx_l0, by omega⟩
      | 1, _ => exact ⟨4, sx_l1, by omega⟩
      | 2, _ => exact ⟨m, sx_l2, by omega⟩
    refine sat_ob eu (sat_rb (rule_ok ns (by omega) (by omega) 24 u r18.2 dk18 hu.1 (by omega)) fun r20 ⟨R, eR, pR, oR, dk20⟩ => ?_)
    rw [eR]
    have lk : k < (ns.drop i).length := (List.getElem?_eq_some_iff.mp ew).1
    refine sat_ob (ap_l (by simp at lk ⊢; omega)) (sat_ok ⟨dk20, gs ++ [(w, R)], by simp [gD], by simp; omega, ?_, fun g hg => ?_⟩)
    · rw [List.map_append, hn, Nat.zero_add, List.take_add_one, ew]; rfl
    · rcases List.mem_append.mp hg with h | h
      · exact hr g h
      · rw [List.mem_singleton.mp h]; exact ⟨by show R.dp ≤ 10; omega, oR⟩
  · refine sat_ob (slL_to (by rw [dn_len]; omega)) (sat_ok ⟨⟨ns.take i, gs⟩, ?_, ?_, dk⟩)
    · simp only [Nt.d]; rw [e, e2]
    · rw [dn_len, Nat.zero_add] at hl hn
      rw [List.take_of_length_le (Nat.le_refl _)] at hn
      have hws : (Nt.mk (ns.take i) gs).ws = ns := by
        show ns.take i ++ gs.map (·.1) = ns
        rw [hn, List.take_append_drop]
      refine ⟨by simp; omega, ?_, ?_, by rw [hws]; exact nd, by rw [hws]; exact hw, by rw [hws]; exact hr⟩
      · show 1 ≤ gs.length; rw [hl]; simp; omega
      · show gs.length ≤ 7; rw [hl]; simp; omega
theorem copy_ok (N : Nt) : m__law_copy N.d = .ok N.d := by
  unfold m__law_copy
  simp [Nt.d]
end W

namespace W
open PySem VL
/-! signs by names -/
/-! worths -/
theorem k_nw : (q_not == q_wire) = false := by decide
theorem k_aw : (q_and == q_wire) = false := by decide
theorem k_ow : (q_or == q_wire) = false := by decide
/-! wires -/
def fstD : D → D | .tup (a :: _) => a | _ => .non
def sndD : D → D | .tup [_, b] => b | _ => .non
theorem gn_map (gs : List (List Nat × Rl)) : (gs.map gD).map fstD = dn (gs.map (·.1)) := by
  simp [dn, gD, fstD]
end W

namespace W
open PySem VL SSN PyProof.Rows
/-! things of any kind; names -/
theorem low_mem {c : Nat} (h : 97 ≤ c ∧ c ≤ 122) : c ∈ q_abcdefghijklmnopqrstuvwxyz := by
  simp only [List.mem_cons, List.not_mem_nil, or_false]
  omega
inductive Zs : D → Prop
  | non : Zs .non
  | bl (b : Bool) : Zs (.bl b)
  | int (i : Int) : Zs (.int i)
  | str {s : List Nat} (h : s.length ≤ 1000) : Zs (.str s)
  | tup {l : List D} (h : l.length ≤ 1000) (e : ∀ d ∈ l, Zs d) : Zs (.tup l)
  | lst {l : List D} (h : l.length ≤ 1000) (e : ∀ d ∈ l, Zs d) : Zs (.lst l)
  | dct (l : List (D × D)) : Zs (.dct false l)
def lowS (w : List Nat) : Bool := w.all fun c => decide (97 ≤ c ∧ c ≤ 122)
def goodN : D → Bool
  | .str w => decide (1 ≤ w.length) && decide (w.length ≤ 8) && lowS w
  | _ => false
theorem goodN_word {d : D} (h : goodN d = true) : ∃ w, d = .str w ∧ Word w := by
  cases d <;> try (cases h; done)
  rename_i w
  simp only [goodN, Bool.and_eq_true, decide_eq_true_eq, lowS, List.all_eq_true] at h
  exact ⟨w, rfl, h.1.1, h.1.2, fun c hc => h.2 c hc⟩
theorem word_goodN {w : List Nat} (h : Word w) : goodN (.str w) = true := by
  simp only [goodN, Bool.and_eq_true, decide_eq_true_eq, lowS, List.all_eq_true]
  exact ⟨⟨h.l0, h.l1⟩, fun c hc => h.lo c hc⟩
theorem in_abc' (c : Nat) : notInD (chD c) (.str q_abcdefghijklmnopqrstuvwxyz) = some (!decide (97 ≤ c ∧ c ≤ 122)) := by
  have : inD (chD c) (.str q_abcdefghijklmnopqrstuvwxyz) = some (decide (97 ≤ c ∧ c ≤ 122)) := by
    show some (decide (c ∈ q_abcdefghijklmnopqrstuvwxyz)) = _
    congr 1
    rw [decide_eq_decide]
    constructor
    · intro h
      simp only [List.mem_cons, List.not_mem_nil, or_false] at h
      omega
    · exact low_mem
  simp only [notInD, this]; rfl
theorem lows_filter (w : List Nat) : (w.map chD).filterMap (fun d => match d with | .str [c] => if decide (97 ≤ c ∧ c ≤ 122) = true then none else some d | _ => none) = [] ↔ lowS w = true := by
  induction w with
  | nil => simp [lowS]
  | cons c r ih =>
    simp only [lowS, List.all_cons, Bool.and_eq_true, List.map_cons, List.filterMap_cons, chD] at ih ⊢
    by_cases h : decide (97 ≤ c ∧ c ≤ 122) = true
    · rw [if_pos h]
      simpa [h] using ih
    · rw [if_neg h]
      simp [h]
theorem pname_ok {d : D} (h : Zs d) : m_is_name d = .ok (.bl (goodN d)) := by
  cases h with
  | str hl =>
    rename_i w
    unfold m_is_name
    simp only [sx_isKs, sx_ob, sx_asB, Bool.not_true, Bool.false_eq_true, if_false, len_s (show w.length ≤ 16777216 by omega), sx_le]
    by_cases h0 : 0 < w.length
    · by_cases h9 : w.length < 9
      · rw [show decide ((1 : Int) ≤ (w.length : Int)) = true from decide_eq_true (by omega), show decide ((w.length : Int) ≤ 8) = true from decide_eq_true (by omega)]
        simp only [sx_rb, if_true, Bool.not_true, Bool.false_eq_true, if_false, strLD_eq hl, sx_ob]
        rw [fmR_eq (g := fun d => match d with | .str [c] => if decide (97 ≤ c ∧ c ≤ 122) = true then none else some d | _ => none) _ fun d hd => by
          obtain ⟨c, hc, rfl⟩ := List.mem_map.mp hd
          rw [in_abc']
          simp only [sx_ob, chD]
          by_cases h : decide (97 ≤ c ∧ c ≤ 122) = true
          · rw [h]; rfl
          · rw [if_neg h]
            simp only [Bool.not_eq_true] at h
            rw [h]; rfl]
        simp only [sx_rb, eqN_nil, sx_ob]
        congr 2
        have h1 := lows_filter w
        rw [Bool.eq_iff_iff, List.isEmpty_iff, h1]
        simp only [goodN, Bool.and_eq_true, decide_eq_true_eq]
        constructor
        · exact fun h => ⟨⟨by omega, by omega⟩, h⟩
        · exact fun h => h.2
      · rw [show decide ((1 : Int) ≤ (w.length : Int)) = true from decide_eq_true (by omega), show decide ((w.length : Int) ≤ 8) = false from decide_eq_false (by omega)]
        simp only [sx_rb, if_true, Bool.not_false]
        congr 2
        simp only [goodN, show decide (w.length ≤ 8) = false from decide_eq_false (by omega), Bool.and_false, Bool.false_and]
    · rw [show decide ((1 : Int) ≤ (w.length : Int)) = false from decide_eq_false (by omega)]
      simp only [sx_rb, Bool.false_eq_true, if_false, if_true, Bool.not_false]
      congr 2
      simp only [goodN, show decide (1 ≤ w.length) = false from decide_eq_false (by omega), Bool.false_and]
  | _ => rfl
theorem filter_none {α : Type} (p : α → Bool) (l : List α) : (l.filterMap fun x => if (!p x) = true then some x else none) = [] ↔ l.all p = true := by
  induction l with
  | nil => simp
  | cons a r ih =>
    simp only [List.filterMap_cons, List.all_cons, Bool.and_eq_true]
    cases h : p a with
    | true => simpa using ih
    | false => simp
theorem fil_ok {p : D → Bool} {f : D → Res D} (ds : List D) (h : ∀ d ∈ ds, f d = .ok (.bl (p d))) : fmR ds (fun d => rb (f d) fun r => ob (asB r) fun t => if (!t) = true then .ok (some d) else .ok none) = .ok (ds.filterMap fun x => if (!p x) = true then some x else none) :=
  fmR_eq ds fun d hd => by
    rw [h d hd]
    simp only [sx_rb, sx_asB, sx_ob]
    split <;> rfl
theorem emp_all (p : D → Bool) (l : List D) : (l.filterMap fun x => if (!p x) = true then some x else none).isEmpty = l.all p := by
  rw [Bool.eq_iff_iff, List.isEmpty_iff, filter_none]
end W

namespace W
open PySem VL
/-! text.strip(signs) -/
theorem tw_len {α : Type} (p : α → Bool) (l : List α) : (l.takeWhile p).length ≤ l.length := (List.takeWhile_sublist p).length_le
theorem tw_all {α : Type} {p : α → Bool} {l : List α} (h : ∀ c ∈ l, p c = true) : l.takeWhile p = l := by
  induction l with
  | nil => rfl
  | cons a r ih => rw [List.takeWhile_cons, if_pos (h a List.mem_cons_self), ih fun c hc => h c (List.mem_cons_of_mem _ hc)]
theorem tw_full {α : Type} {p : α → Bool} {l : List α} (h : (l.takeWhile p).length = l.length) : ∀ c ∈ l, p c = true := by
  induction l with
  | nil => intro c hc; cases hc
  | cons a r ih =>
    rw [List.takeWhile_cons] at h
    split at h
    · rename_i ha
      intro c hc
      rcases List.mem_cons.mp hc with e | e
      · rw [e]; exact ha
      · exact ih (by simpa using h) c e
    · simp at h
theorem tw_next {α : Type} {p : α → Bool} {l : List α} {a : α} (h : l[(l.takeWhile p).length]? = some a) : p a = false := by
  induction l with
  | nil => simp at h
  | cons b r ih =>
    rw [List.takeWhile_cons] at h
    split at h
    · exact ih (by simpa using h)
    · rename_i hb
      simp at h
      subst h
      simpa using hb
theorem strip_ok {x y : List Nat} (hx : x.length ≤ 1000000) : ∃ z : List Nat, stripD (.str x) (.str y) = some (.str z) ∧ (z = [] ↔ ∀ c ∈ x, c ∈ y) := by
  refine ⟨_, if_pos (by omega), ?_⟩
  have hg : ∀ c, ((mkS y).cps.contains c = true) ↔ c ∈ y := fun c => by simp [mkS]
  unfold Txt.stripChars Txt.stripBy
  generalize ((mkS y).cps.contains : Nat → Bool) = p at hg
  have hxl : (mkS x).cps.toList = x := mkS_cps x
  have hxn : (mkS x).length = x.length := mkS_len x
  unfold stripSame stripped stripLo stripHi
  simp only [if_true, hxl, hxn]
  have h1 := tw_len p x
  generalize hlo : (x.takeWhile p).length = lo at *
  have h2 := tw_len p (x.drop lo).reverse
  rw [List.length_reverse, List.length_drop] at h2
  have ext : ∀ i j : Nat, (Builtin.Str.strSub (mkS x) i j).cps.toList = (x.drop i).take (j - i) := fun i j => by
    show ((mkS x).cps.extract i j).toList = _
    rw [Array.toList_extract, hxl, List.extract_eq_take_drop]
  by_cases hall : ∀ c ∈ x, c ∈ y
  · have e1 : x.takeWhile p = x := tw_all fun c hc => (hg c).mpr (hall c hc)
    have e2 : lo = x.length := by rw [← hlo, e1]
    subst e2
    simp only [List.drop_length, List.reverse_nil, List.takeWhile_nil, List.length_nil, Nat.sub_zero, beq_self_eq_true, Bool.and_true]
    refine ⟨fun _ => hall, fun _ => ?_⟩
    split
    · rename_i h
      rw [hxl]
      exact List.length_eq_zero_iff.mp (by simpa using h)
    · rw [ext]; simp
  · have hlt : lo < x.length := by
      refine Nat.lt_of_le_of_ne h1 fun e => hall fun c hc => (hg c).mp (tw_full (by rw [hlo, e]) c hc)
    obtain ⟨a, ha⟩ : ∃ a, x[lo]? = some a := ⟨_, List.getElem?_eq_getElem hlt⟩
    have hpa : p a = false := tw_next (p := p) (l := x) (by rw [hlo]; exact ha)
    have hmem : a ∈ (x.drop lo).reverse := by
      rw [List.mem_reverse]
      exact List.mem_of_getElem? (i := 0) (by rw [List.getElem?_drop]; exact ha)
    have h3 : ((x.drop lo).reverse.takeWhile p).length < x.length - lo := by
      refine Nat.lt_of_le_of_ne h2 fun e => ?_
      have := tw_full (p := p) (l := (x.drop lo).reverse) (by rw [e]; simp) a hmem
      rw [hpa] at this; cases this
    refine ⟨fun hz => absurd hz ?_, fun h => absurd h hall⟩
    split
    · rw [hxl]
      intro e
      rw [e] at hlt; simp at hlt
    · rw [ext]
      intro e
      have := congrArg List.length e
      simp at this
      omega
end W

namespace W
open PySem VL SSN PyProof.Rows
/-! things of any kind, of some size and depth; h: what stands first in a tuple is plain or {} -/
def headOk : List D → Prop
  | a :: _ => a.plain = true ∨ a = .dct false []
  | [] => True
inductive Zt (h : Bool) : Nat → D → Prop
  | non {n : Nat} : Zt h n .non
  | bl {n : Nat} (b : Bool) : Zt h n (.bl b)
  | int {n : Nat} (i : Int) : Zt h n (.int i)
  | str {n : Nat} {s : List Nat} (l : s.length ≤ 1000) : Zt h n (.str s)
  | tup {n : Nat} {l : List D} (b : l.length ≤ 1000) (e : ∀ d ∈ l, Zt h n d) (k : h = true → headOk l) : Zt h (n + 1) (.tup l)
  | lst {n : Nat} {l : List D} (b : l.length ≤ 1000) (e : ∀ d ∈ l, Zt h n d) : Zt h (n + 1) (.lst l)
  | dct {n : Nat} : Zt h n (.dct false [])
theorem Zt.mono {h : Bool} {n : Nat} {d : D} (z : Zt h n d) : ∀ {m : Nat}, n ≤ m → Zt h m d := by
  induction z with
  | non => intro m _; exact .non
  | bl b => intro m _; exact .bl b
  | int i => intro m _; exact .int i
  | str l => intro m _; exact .str l
  | tup b e k ih =>
    intro m hm
    obtain ⟨m, rfl⟩ : ∃ k, m = k + 1 := ⟨m - 1, by omega⟩
    exact .tup b (fun d hd => ih d hd (by omega)) k
  | lst b e ih =>
    intro m hm
    obtain ⟨m, rfl⟩ : ∃ k, m = k + 1 := ⟨m - 1, by omega⟩
    exact .lst b (fun d hd => ih d hd (by omega))
  | dct => intro m _; exact .dct
theorem Zt.weak {h : Bool} {n : Nat} {d : D} (z : Zt h n d) : Zt false n d := by
  induction z with
  | non => exact .non
  | bl b => exact .bl b
  | int i => exact .int i
  | str l => exact .str l
  | tup b e k ih => exact .tup b (fun d hd => ih d hd) fun h => by cases h
  | lst b e ih => exact .lst b (fun d hd => ih d hd)
  | dct => exact .dct
theorem Zt.zs {h : Bool} {n : Nat} {d : D} (z : Zt h n d) : Zs d := by
  induction z with
  | non => exact .non
  | bl b => exact .bl b
  | int i => exact .int i
  | str l => exact .str l
  | tup b e k ih => exact .tup b (fun d hd => ih d hd)
  | lst b e ih => exact .lst b (fun d hd => ih d hd)
  | dct => exact .dct _
theorem Zt.dep {h : Bool} {n : Nat} {d : D} (z : Zt h n d) : d.dep ≤ n := by
  induction z with
  | tup b e k ih =>
    have := deps_le fun d hd => ih d hd
    simp only [D.dep]; omega
  | lst b e ih =>
    have := deps_le fun d hd => ih d hd
    simp only [D.dep]; omega
  | _ => simp only [D.dep]; omega
theorem sames_refl : ∀ l : List D, (∀ d ∈ l, D.same d d = true) → D.sames l l = true
  | [], _ => by simp only [D.sames]
  | a :: r, h => by
    simp only [D.sames, Bool.and_eq_true]
    exact ⟨h a List.mem_cons_self, sames_refl r fun d hd => h d (List.mem_cons_of_mem _ hd)⟩
theorem Zt.same {h : Bool} {n : Nat} {d : D} (z : Zt h n d) : D.same d d = true := by
  induction z with
  | tup b e k ih => simp only [D.same]; exact sames_refl _ ih
  | lst b e ih => simp only [D.same]; exact sames_refl _ ih
  | _ => simp [D.same]
theorem Zt.eqS {h : Bool} {n : Nat} {d : D} (z : Zt h n d) (hn : n ≤ 60) : VL.eqS d d = some true := by
  unfold VL.eqS
  rw [if_pos ⟨z.same, by have := z.dep; omega⟩]
theorem Zt.deep {h : Bool} {n : Nat} {d : D} (z : Zt h n d) : ∀ fu : Nat, n < fu → m__law_deep fu d = .ok d := by
  induction z with
  | @tup n l b e k ih =>
    intro fu hf
    obtain ⟨fu, rfl⟩ : ∃ k, fu = k + 1 := ⟨fu - 1, by omega⟩
    have e1 : isK (.tup l) .list = some false := rfl
    have e2 : asTup (.tup l) = some l := rfl
    rw [m__law_deep]
    simp only [e1, sx_ob, sx_asB, Bool.false_eq_true, if_false, sx_isKt, if_true, e2]
    rw [fmR_map (g := fun d => d) l fun d hd => by rw [ih d hd fu (by omega)]; rfl]
    rw [List.map_id']; rfl
  | @lst n l b e ih =>
    intro fu hf
    obtain ⟨fu, rfl⟩ : ∃ k, fu = k + 1 := ⟨fu - 1, by omega⟩
    rw [m__law_deep]
    simp only [sx_ob, sx_asB, sx_isKl, if_true, sx_asL]
    rw [fmR_map (g := fun d => d) l fun d hd => by rw [ih d hd fu (by omega)]; rfl]
    rw [List.map_id']; rfl
  | _ =>
    intro fu hf
    obtain ⟨fu, rfl⟩ : ∃ k, fu = k + 1 := ⟨fu - 1, by omega⟩
    rfl
/-! names -/
theorem lname_ok1 {d : D} (h : Zs d) : m__law_name_good d = .ok (.bl (goodN d)) := by
  cases h with
  | str hl =>
    rename_i w
    unfold m__law_name_good
    simp only [sx_isKs, sx_ob, sx_asB, Bool.not_true, Bool.false_eq_true, if_false, len_s (show w.length ≤ 16777216 by omega), sx_lt]
    by_cases h0 : 0 < w.length
    · by_cases h9 : w.length < 9
      · rw [show decide ((0 : Int) < (w.length : Int)) = true from decide_eq_true (by omega), show decide ((w.length : Int) < 9) = true from decide_eq_true (by omega)]
        obtain ⟨z, ez, hz⟩ := strip_ok (x := w) (y := q_abcdefghijklmnopqrstuvwxyz) (by omega)
        simp only [sx_rb, if_true, Bool.not_true, Bool.false_eq_true, if_false, sx_ob, sx_asS, ez, sx_eqs]
        congr 2
        rw [Bool.eq_iff_iff, beq_iff_eq]
        refine (show z = [] ↔ _ from hz).trans ?_
        simp only [goodN, Bool.and_eq_true, decide_eq_true_eq, lowS, List.all_eq_true]
        constructor
        · exact fun h => ⟨⟨by omega, by omega⟩, fun c hc => by
            have := h c hc
            simp only [List.mem_cons, List.not_mem_nil, or_false] at this
            omega⟩
        · exact fun h c hc => low_mem (h.2 c hc)
      · rw [show decide ((0 : Int) < (w.length : Int)) = true from decide_eq_true (by omega), show decide ((w.length : Int) < 9) = false from decide_eq_false (by omega)]
        simp only [sx_rb, if_true, Bool.not_false]
        congr 2
        simp only [goodN, show decide (w.length ≤ 8) = false from decide_eq_false (by omega), Bool.and_false, Bool.false_and]
    · rw [show decide ((0 : Int) < (w.length : Int)) = false from decide_eq_false (by omega)]
      simp only [sx_rb, Bool.false_eq_true, if_false, if_true, Bool.not_false]
      congr 2
      simp only [goodN, show decide (1 ≤ w.length) = false from decide_eq_false (by omega), Bool.false_and]
  | _ => rfl
/-! rules -/
def goodR (ns : List (List Nat)) : Nat → D → Bool
  | 0, _ => false
  | k + 1, .tup (.str w :: r) =>
    if w = q_wire then (match r with | [.str v] => decide (v ∈ ns) | _ => false)
    else if w = q_not then (match r with | [a] => goodR ns k a | _ => false)
    else if w = q_and ∨ w = q_or then (match r with | [a, b] => goodR ns k a && goodR ns k b | _ => false)
    else false
  | _ + 1, _ => false
theorem in_ao (w : List Nat) : inD (.str w) (.tup [.str q_and, .str q_or]) = some (decide (w = q_and ∨ w = q_or)) := by
  show some _ = _
  congr 1
  have e : ∀ x : List Nat, D.eqv (.str x) (.str w) = decide (w = x) := fun x => by
    show (x == w) = _
    rw [Bool.eq_iff_iff, beq_iff_eq, decide_eq_true_eq]
    exact eq_comm
  generalize q_and = x
  generalize q_or = y
  show (D.eqv (.str x) (.str w) || (D.eqv (.str y) (.str w) || false)) = _
  rw [e, e, Bool.or_false, Bool.eq_iff_iff]
  simp only [Bool.or_eq_true, decide_eq_true_eq]
theorem prule_ok {ns : List (List Nat)} : ∀ (fu k n : Nat) (d : D), k < fu → Zt true n d → m_is_rule fu d (.lst (dn ns)) (.int (k : Nat)) = .ok (.bl (goodR ns k d))
  | 0, k, n, d, hf, _ => by omega
  | fu + 1, k, n, d, hf, z => by
    rw [m_is_rule]
    cases z with
    | tup b e hk =>
      rename_i n l
      match l, e with
      | [], _ => cases k <;> rfl
      | [a], e =>
        cases k with
        | zero => rfl
        | succ k =>
          show _ = Res.ok (D.bl (goodR ns (k + 1) (.tup [a])))
          cases a <;> try rfl
          simp only [goodR]
          split
          · rfl
          · split
            · rfl
            · split <;> rfl
      | a :: c :: r, e =>
        have za := e a (by simp)
        have e2 : ltD (.int ((a :: c :: r).length : Nat)) (.int 2) = some false := by
          rw [sx_lt, decide_eq_false]; simp; omega
        simp only [sx_isKt, sx_ob, sx_asB, Bool.not_true, Bool.false_eq_true, if_false, sx_lent, e2, sx_rb, sx_t0]
        cases za with
        | str hw =>
          rename_i w
          simp only [sx_isKs, sx_ob, sx_asB, Bool.not_true, Bool.false_eq_true, if_false, sx_eqi]
          cases k with
          | zero => rfl
          | succ k =>
            rw [show (((k + 1 : Nat) : Int) == 0) = false by simp; omega]
            simp only [sx_rb, Bool.false_eq_true, if_false, sx_eqs, sx_ob, in_ao, goodR, sx_sub, show (((k + 1 : Nat) : Int) - 1) = ((k : Nat) : Int) by omega]
            by_cases h1 : w = q_wire
            · subst h1
              simp only [beq_self_eq_true, if_true]
              match r with
              | [] =>
                have zc := e c (by simp)
                rw [show (((([D.str q_wire, c].length : Nat) : Int)) == 2) = true from rfl]
                simp only [if_true, sx_t1]
                cases zc with
                | str hv => simp only [sx_isKs, sx_ob, sx_asB, if_true, in_dn, sx_rb]
                | _ => rfl
              | q :: r =>
                rw [show ((((D.str q_wire :: c :: q :: r).length : Nat) : Int) == 2) = false by simp; omega]
                simp only [Bool.false_eq_true, if_false, sx_rb]
            · rw [show (w == q_wire) = false by simpa using h1]
              simp only [Bool.false_eq_true, if_false, if_neg h1]
              by_cases h2 : w = q_not
              · subst h2
                simp only [beq_self_eq_true, if_true]
                match r with
                | [] =>
                  have zc := e c (by simp)
                  rw [show (((([D.str q_not, c].length : Nat) : Int)) == 2) = true from rfl]
                  simp only [if_true, sx_t1, sx_ob, prule_ok fu k n c (by omega) zc, sx_rb]
                | q :: r =>
                  rw [show ((((D.str q_not :: c :: q :: r).length : Nat) : Int) == 2) = false by simp; omega]
                  simp only [Bool.false_eq_true, if_false, sx_rb]
              · rw [show (w == q_not) = false by simpa using h2]
                simp only [Bool.false_eq_true, if_false, if_neg h2]
                by_cases h3 : w = q_and ∨ w = q_or
                · simp only [decide_eq_true h3, if_true, if_pos h3]
                  match r with
                  | [] => rfl
                  | [q] =>
                    have zc := e c (by simp)
                    have zq := e q (by simp)
                    rw [show (((([D.str w, c, q].length : Nat) : Int)) == 3) = true from rfl]
                    simp only [if_true, sx_t1, sx_t2, sx_ob, prule_ok fu k n c (by omega) zc, prule_ok fu k n q (by omega) zq, sx_rb, sx_asB]
                    cases goodR ns k c <;> rfl
                  | q :: q2 :: r =>
                    rw [show ((((D.str w :: c :: q :: q2 :: r).length : Nat) : Int) == 3) = false by simp; omega]
                    simp only [Bool.false_eq_true, if_false, sx_rb]
                · simp only [decide_eq_false h3, Bool.false_eq_true, if_false, if_neg h3]
        | _ => cases k <;> rfl
    | _ => cases k <;> rfl
def isS : D → List Nat → Bool
  | .str x, w => x == w
  | _, _ => false
theorem eqG_head {a : D} (h : a.plain = true ∨ a = .dct false []) (w : List Nat) : eqG a (.str w) = some (isS a w) := by
  rcases h with h | rfl
  · cases a with
    | str x => exact sx_eqs x w
    | dct _ _ => cases h
    | opq _ => cases h
    | exc _ _ => cases h
    | fd _ _ _ => cases h
    | fz _ => cases h
    | _ =>
      show eqD _ _ = _
      unfold eqD
      rw [if_pos ⟨h, rfl, by simp only [D.dep]; omega⟩]
      rfl
  · rfl
theorem inE_head {a : D} (h : a.plain = true ∨ a = .dct false []) : inE a (.lst [.str q_and, .str q_or]) = some (isS a q_and || isS a q_or) := by
  rcases h with h | rfl
  · show (if _ then _ else none) = _
    rw [if_pos (by simp [inOk, h, D.plains, D.plain, D.deps, D.dep])]
    cases a with
    | str x =>
      congr 1
      have e : ∀ y : List Nat, eqx (.str y) (.str x) = (x == y) := fun y => by
        show (y == x) = _
        rw [Bool.eq_iff_iff, beq_iff_eq, beq_iff_eq]
        exact eq_comm
      show (eqx (.str q_and) (.str x) || (eqx (.str q_or) (.str x) || false)) = _
      rw [e, e, Bool.or_false]; rfl
    | dct _ _ => cases h
    | opq _ => cases h
    | exc _ _ => cases h
    | fd _ _ _ => cases h
    | fz _ => cases h
    | _ => rfl
  · rfl
theorem count_dn (ns : List (List Nat)) (v : List Nat) : ∃ m : Nat, countD (.lst (dn ns)) (.str v) = some (.int (m : Nat)) ∧ (0 < m ↔ v ∈ ns) := by
  refine ⟨ns.countP fun y => y == v, ?_, ?_⟩
  · show (strsD (ns.map D.str)).map _ = _
    rw [strsD_map]; rfl
  · rw [List.countP_pos_iff]
    constructor
    · rintro ⟨a, ha, e⟩
      rw [beq_iff_eq] at e
      exact e ▸ ha
    · exact fun h => ⟨v, h, by simp⟩
theorem k_wn : (q_wire == q_not) = false := by decide
theorem k_wa : (q_wire == q_and) = false := by decide
theorem k_wo : (q_wire == q_or) = false := by decide
theorem k_na : (q_not == q_and) = false := by decide
theorem k_no : (q_not == q_or) = false := by decide
theorem lrule_ok {ns : List (List Nat)} : ∀ (fu k n : Nat) (d : D), k < fu → k ≤ 10 → Zt true n d → m__law_rule_good fu d (.lst (dn ns)) (.int (11 - (k : Nat))) = .ok (.bl (goodR ns k d))
  | 0, k, n, d, hf, _, _ => by omega
  | fu + 1, k, n, d, hf, hk, z => by
    rw [m__law_rule_good]
    cases z with
    | tup b e hh =>
      rename_i n l
      match l, e, hh rfl with
      | [], _, _ => cases k <;> rfl
      | a :: r, e, (ho : a.plain = true ∨ a = .dct false []) =>
        have e1 : eqG (.tup (a :: r)) (.tup []) = some false := rfl
        simp only [sx_isKt, sx_ob, sx_asB, Bool.not_true, Bool.false_eq_true, if_false, e1, sx_gt]
        cases k with
        | zero =>
          rw [show decide ((10 : Int) < 11 - ((0 : Nat) : Int)) = true by decide]
          rfl
        | succ k =>
          rw [show decide ((10 : Int) < 11 - ((k + 1 : Nat) : Int)) = false from decide_eq_false (by omega)]
          simp only [sx_rb, Bool.false_eq_true, if_false, sx_t0, sx_ob, eqG_head ho, inE_head ho, sx_lent, sx_eqi, sx_add, show (11 - ((k + 1 : Nat) : Int) + 1) = 11 - ((k : Nat) : Int) by omega]
          cases a with
          | str w =>
            simp only [isS, goodR]
            by_cases h1 : w = q_wire
            · subst h1
              simp only [beq_self_eq_true, if_true, k_wn, k_wa, k_wo]
              match r with
              | [] => rfl
              | [c] =>
                have zc := e c (by simp)
                rw [show (((([D.str q_wire, c].length : Nat) : Int)) == 2) = true from rfl]
                simp only [if_true, sx_t1, sx_rb, sx_ob]
                cases zc with
                | str hv =>
                  rename_i v
                  obtain ⟨m, em, hm⟩ := count_dn ns v
                  simp only [sx_isKs, sx_ob, sx_asB, if_true, sx_asL, em, sx_gt, sx_rb]
                  congr 2
                  rw [decide_eq_decide, ← hm]
                  omega
                | _ => rfl
              | c :: q :: r =>
                rw [show ((((D.str q_wire :: c :: q :: r).length : Nat) : Int) == 2) = false by simp; omega]
                simp only [Bool.false_eq_true, if_false, sx_rb, Bool.or_self]
            · simp only [show (w == q_wire) = false by simpa using h1, Bool.false_eq_true, if_false, if_neg h1, sx_rb]
              by_cases h2 : w = q_not
              · subst h2
                simp only [beq_self_eq_true, if_true, k_na, k_no]
                match r with
                | [] => rfl
                | [c] =>
                  have zc := e c (by simp)
                  rw [show (((([D.str q_not, c].length : Nat) : Int)) == 2) = true from rfl]
                  simp only [if_true, sx_t1, sx_rb, sx_ob, lrule_ok fu k n c (by omega) (by omega) zc]
                | c :: q :: r =>
                  rw [show ((((D.str q_not :: c :: q :: r).length : Nat) : Int) == 2) = false by simp; omega]
                  simp only [Bool.false_eq_true, if_false, sx_rb, Bool.or_self]
              · simp only [show (w == q_not) = false by simpa using h2, Bool.false_eq_true, if_false, if_neg h2, sx_rb]
                by_cases h3 : w = q_and ∨ w = q_or
                · have h4 : (w == q_and || w == q_or) = true := by simp only [Bool.or_eq_true, beq_iff_eq]; exact h3
                  simp only [h4, if_true, if_pos h3]
                  match r with
                  | [] => rfl
                  | [_] => rfl
                  | [c, q] =>
                    have zc := e c (by simp)
                    have zq := e q (by simp)
                    rw [show (((([D.str w, c, q].length : Nat) : Int)) == 3) = true from rfl]
                    simp only [if_true, sx_t1, sx_t2, sx_ob, sx_rb, lrule_ok fu k n c (by omega) (by omega) zc, lrule_ok fu k n q (by omega) (by omega) zq, sx_asB]
                    cases goodR ns k c <;> rfl
                  | c :: q :: q2 :: r =>
                    rw [show ((((D.str w :: c :: q :: q2 :: r).length : Nat) : Int) == 3) = false by simp; omega]
                    simp only [Bool.false_eq_true, if_false, sx_rb]
                · have h4 : (w == q_and || w == q_or) = false := by
                    rw [Bool.eq_false_iff, Ne, Bool.or_eq_true, beq_iff_eq, beq_iff_eq]
                    exact h3
                  simp only [h4, Bool.false_eq_true, if_false, if_neg h3, sx_rb]
          | _ => rfl
    | _ => cases k <;> rfl
end W

namespace W
open PySem VL SSN PyProof.Rows
/-! is_net and the law's own look, of a thing of any kind -/
theorem ddp_nodup {α : Type} [BEq α] [LawfulBEq α] : ∀ (l σ : List α), (σ ++ l).Nodup → l.foldl step_dedup σ = σ ++ l
  | [], σ, _ => by simp
  | x :: r, σ, h => by
    have hx : σ.any (· == x) = false := by
      rw [List.any_eq_false]
      intro y hy e
      have : y = x := eq_of_beq e
      subst this
      exact (List.nodup_append.mp h).2.2 y hy y List.mem_cons_self rfl
    rw [List.foldl_cons]
    have e : step_dedup σ x = σ ++ [x] := by simp [step_dedup, hx]
    rw [e, ddp_nodup r (σ ++ [x]) (by simpa using h)]
    simp
theorem lenSet_dn {l : List (List Nat)} (nd : l.Nodup) (h : l.length ≤ 4000) : lenSetD (.lst (dn l)) = some (.int l.length) := by
  show (match strsD (l.map D.str) with | some ys => _ | none => none) = _
  rw [strsD_map]
  simp only
  rw [if_pos h]
  have : ddp l = l := by simpa [ddp] using ddp_nodup l [] (by simpa using nd)
  rw [this]
theorem dedup_le {α : Type} [BEq α] : ∀ (l σ : List α), (l.foldl step_dedup σ).length ≤ σ.length + l.length
  | [], σ => by simp
  | x :: r, σ => by
    rw [List.foldl_cons]
    have h1 := dedup_le r (step_dedup σ x)
    have h2 : (step_dedup σ x).length ≤ σ.length + 1 := by unfold step_dedup; split <;> simp
    simp only [List.length_cons]; omega
theorem dedup_full {α : Type} [BEq α] [LawfulBEq α] : ∀ (l σ : List α), σ.Nodup → σ.length + l.length ≤ (l.foldl step_dedup σ).length → (σ ++ l).Nodup
  | [], σ, nd, _ => by simpa using nd
  | x :: r, σ, nd, h => by
    rw [List.foldl_cons] at h
    simp only [List.length_cons] at h
    by_cases hx : σ.any (· == x) = true
    · have e : step_dedup σ x = σ := by simp [step_dedup, hx]
      rw [e] at h
      have := dedup_le r σ
      omega
    · have e : step_dedup σ x = σ ++ [x] := by simp [step_dedup, hx]
      rw [e] at h
      have hn : x ∉ σ := fun hm => hx (List.any_eq_true.mpr ⟨x, hm, by simp⟩)
      have := dedup_full r (σ ++ [x]) (by
        rw [List.nodup_append]
        exact ⟨nd, by simp, fun a ha b hb e => hn (by rw [List.mem_singleton.mp hb] at e; exact e ▸ ha)⟩) (by simp; omega)
      simpa using this
theorem lenSet_lt {l : List (List Nat)} (nd : ¬ l.Nodup) (h : l.length ≤ 4000) : ∃ n : Nat, lenSetD (.lst (dn l)) = some (.int (n : Nat)) ∧ n < l.length := by
  refine ⟨(ddp l).length, ?_, ?_⟩
  · show (match strsD (l.map D.str) with | some ys => _ | none => none) = _
    rw [strsD_map]
    simp only
    rw [if_pos h]
  · refine Nat.lt_of_not_le fun hle => nd ?_
    have := dedup_full l [] List.nodup_nil (by simpa [ddp] using hle)
    simpa using this
def txt : D → List Nat | .str w => w | _ => []
def is2 : D → Bool | .tup [_, _] => true | _ => false
def goodG : D → Bool | .tup [a, _] => goodN a | _ => false
def wsOf (ins gs : List D) : List (List Nat) := (ins ++ gs.map fstD).map txt
def netB : D → Bool
  | .tup [.lst ins, .lst gs] => (decide (ins.length ≤ 4) && (decide (1 ≤ gs.length) && decide (gs.length ≤ 7))) && ((ins.all goodN && gs.all goodG) && (decide (wsOf ins gs).Nodup && gs.all fun g => goodR (wsOf ins gs) 10 (sndD g)))
  | _ => false
structure Zn (d : D) : Prop where
  z : Zt false 20 d
  r : ∀ ins gs, d = .tup [.lst ins, .lst gs] → ∀ g ∈ gs, ∀ a b, g = .tup [a, b] → Zt true 20 b
theorem gate_ok {h : Bool} {n : Nat} {d : D} (z : Zt h n d) : m_is_gate d = .ok (.bl (goodG d)) := by
  cases z with
  | tup b e k =>
    rename_i n l
    match l, e with
    | [], _ => rfl
    | [_], _ => rfl
    | [a, c], e =>
      unfold m_is_gate
      simp only [sx_isKt, sx_ob, sx_asB, if_true, sx_lent, List.length_cons, List.length_nil, sx_eqi, sx_t0, pname_ok (e a (by simp)).zs, sx_rb]
      rfl
    | a :: c :: q :: r, e =>
      unfold m_is_gate
      simp only [sx_isKt, sx_ob, sx_asB, if_true, sx_lent, sx_eqi]
      rw [show ((((a :: c :: q :: r).length : Nat) : Int) == 2) = false by simp; omega]
      rfl
  | _ => rfl
theorem goodG_two {g : D} (h : goodG g = true) : ∃ a b, g = .tup [a, b] ∧ goodN a = true := by
  unfold goodG at h
  split at h
  · exact ⟨_, _, rfl, h⟩
  · cases h
theorem goodN_txt {a : D} (h : goodN a = true) : D.str (txt a) = a := by
  obtain ⟨w, rfl, _⟩ := goodN_word h; rfl
theorem ws_dn {ins gs : List D} (h1 : ins.all goodN = true) (h2 : gs.all goodG = true) : ins ++ gs.map fstD = dn (wsOf ins gs) := by
  unfold wsOf dn
  rw [List.map_map]
  have : ∀ d ∈ ins ++ gs.map fstD, (D.str ∘ txt) d = d := fun d hd => by
    rcases List.mem_append.mp hd with hd | hd
    · exact goodN_txt (List.all_eq_true.mp h1 d hd)
    · obtain ⟨g, hg, rfl⟩ := List.mem_map.mp hd
      obtain ⟨a, b, rfl, ha⟩ := goodG_two (List.all_eq_true.mp h2 g hg)
      exact goodN_txt ha
  rw [List.map_congr_left this, List.map_id']
theorem wires_okW {ins gs : List D} (h1 : ins.all goodN = true) (h2 : gs.all goodG = true) (hl : ins.length + gs.length ≤ 1000) : m_wires_of (.tup [.lst ins, .lst gs]) = .ok (dn (wsOf ins gs)) := by
  unfold m_wires_of
  simp only [sx_t0, sx_t1, sx_ob, sx_list, sx_asL]
  rw [fmR_map (g := fstD) gs fun g hg => by
    obtain ⟨a, b, rfl, _⟩ := goodG_two (List.all_eq_true.mp h2 g hg)
    rfl]
  rw [sx_rb, VL.cat_l (by rw [List.length_map]; omega), sx_ob, ws_dn h1 h2]
theorem emp_map {α β : Type} (p : α → Bool) (f : α → β) (l : List α) : (l.filterMap fun x => if (!p x) = true then some (f x) else none).isEmpty = l.all p := by
  induction l with
  | nil => rfl
  | cons a r ih =>
    simp only [List.filterMap_cons, List.all_cons]
    cases h : p a with
    | true => simpa using ih
    | false => simp
theorem pnet_ok {d : D} (h : Zn d) : m_is_net d = .ok (.bl (netB d)) := by
  have hz := h.z
  cases hz with
  | tup b e k =>
    rename_i l
    match l, e, h with
    | [], _, _ => rfl
    | [x], _, _ => cases x <;> rfl
    | a :: c :: q :: r, e, _ =>
      unfold m_is_net
      have e1 : neD (.int ((a :: c :: q :: r).length : Nat)) (.int 2) = some true := by rw [sx_nei]; simp; omega
      simp only [sx_isKt, sx_ob, sx_asB, Bool.not_true, Bool.false_eq_true, if_false, sx_lent, e1, sx_rb, if_true]
      cases a <;> first | rfl | (cases c <;> rfl)
    | [a, c], e, h =>
      have za := e a (by simp)
      have zc := e c (by simp)
      unfold m_is_net
      have e1 : neD (.int (([a, c] : List D).length : Nat)) (.int 2) = some false := by rw [sx_nei]; rfl
      simp only [sx_isKt, sx_ob, sx_asB, Bool.not_true, Bool.false_eq_true, if_false, sx_lent, e1, sx_rb, sx_un2]
      cases za with
      | lst ba ea =>
        rename_i ins
        cases zc with
        | lst bc ec =>
          rename_i gs
          have hr := h.r ins gs rfl
          simp only [sx_isKl, sx_ob, sx_asB, if_true, Bool.not_true, Bool.false_eq_true, if_false, sx_rb, sx_len, sx_gt, sx_le]
          by_cases c1 : ins.length ≤ 4 ∧ 1 ≤ gs.length ∧ gs.length ≤ 7
          · rw [show decide ((4 : Int) < (ins.length : Int)) = false from decide_eq_false (by omega), show decide ((1 : Int) ≤ (gs.length : Int)) = true from decide_eq_true (by omega), show decide ((gs.length : Int) ≤ 7) = true from decide_eq_true (by omega)]
            simp only [Bool.false_eq_true, if_false, if_true, sx_rb, Bool.not_true, sx_asL, sx_ob]
            rw [fil_ok (p := goodN) ins fun d hd => pname_ok (ea d hd).zs]
            rw [fil_ok (p := goodG) gs fun d hd => gate_ok (ec d hd)]
            simp only [sx_rb, neN_nil, sx_ob, emp_all, netB, decide_eq_true c1.1, decide_eq_true c1.2.1, decide_eq_true c1.2.2, Bool.true_and]
            by_cases g1 : ins.all goodN = true
            · by_cases g2 : gs.all goodG = true
              · simp only [g1, g2, Bool.not_true, Bool.false_eq_true, if_false, sx_rb, Bool.true_and, wires_okW g1 g2 (show ins.length + gs.length ≤ 1000 by omega), sx_len]
                have lw : (wsOf ins gs).length ≤ 4000 := by unfold wsOf; simp; omega
                by_cases nd : (wsOf ins gs).Nodup
                · simp only [lenSet_dn nd lw, sx_ob, dn_len, sx_lt, Int.lt_irrefl, decide_false, Bool.false_eq_true, if_false, decide_eq_true nd, Bool.true_and]
                  rw [fmR_eq (g := fun g => if (!goodR (wsOf ins gs) 10 (sndD g)) = true then some (sndD g) else none) gs fun g hg => by
                    obtain ⟨x, y, rfl, _⟩ := goodG_two (List.all_eq_true.mp g2 g hg)
                    have := prule_ok (ns := wsOf ins gs) 24 10 20 y (by decide) (hr _ hg x y rfl)
                    rw [show ((10 : Nat) : Int) = 10 from rfl] at this
                    rw [sx_un2, sx_ob, this]
                    simp only [sx_rb, sx_asB, sx_ob, sndD]
                    by_cases hq : (!goodR (wsOf ins gs) 10 y) = true
                    · rw [if_pos hq]; exact congrArg Res.ok (if_pos hq).symm
                    · rw [if_neg hq]; exact congrArg Res.ok (if_neg hq).symm]
                  rw [sx_rb, eqN_nil, sx_ob, emp_map]
                · obtain ⟨m, em, hm⟩ := lenSet_lt nd lw
                  simp only [em, sx_ob, dn_len, sx_lt]
                  rw [decide_eq_true (show ((m : Nat) : Int) < ((wsOf ins gs).length : Int) by omega), decide_eq_false nd]
                  simp
              · simp only [Bool.not_eq_true] at g2
                simp only [g1, g2, Bool.not_true, Bool.false_eq_true, if_false, sx_rb, Bool.not_false, if_true, Bool.and_false, Bool.false_and]
            · simp only [Bool.not_eq_true] at g1
              simp only [g1, Bool.not_false, if_true, sx_rb, Bool.false_and]
          · have hn : netB (.tup [.lst ins, .lst gs]) = false := by
              simp only [netB]
              rw [show (decide (ins.length ≤ 4) && (decide (1 ≤ gs.length) && decide (gs.length ≤ 7))) = false from ?_, Bool.false_and]
              rw [Bool.eq_false_iff]
              simp only [Ne, Bool.and_eq_true, decide_eq_true_eq]
              exact c1
            rw [hn]
            by_cases c2 : 4 < ins.length
            · rw [show decide ((4 : Int) < (ins.length : Int)) = true from decide_eq_true (by omega)]
              rfl
            · rw [show decide ((4 : Int) < (ins.length : Int)) = false from decide_eq_false (by omega)]
              by_cases c3 : 1 ≤ gs.length
              · rw [show decide ((1 : Int) ≤ (gs.length : Int)) = true from decide_eq_true (by omega), show decide ((gs.length : Int) ≤ 7) = false from decide_eq_false (by omega)]
                rfl
              · rw [show decide ((1 : Int) ≤ (gs.length : Int)) = false from decide_eq_false (by omega)]
                rfl
        | _ => rfl
      | _ => cases c <;> rfl
  | _ => rfl
theorem first_rt {P : D → Bool} {f : Unit → D → Res (Fl Unit D)} {x : D} : ∀ (ds : List D), (∀ d ∈ ds, f () d = if P d = true then .ok (.nx ()) else .ok (.rt x)) → forL ds () f = if ds.all P = true then .ok (.nx ()) else .ok (.rt x)
  | [], _ => rfl
  | d :: r, h => by
    show rb (f () d) _ = _
    rw [h d List.mem_cons_self, List.all_cons]
    by_cases hp : P d = true
    · rw [if_pos hp, hp, Bool.true_and]
      exact first_rt r fun d hd => h d (List.mem_cons_of_mem _ hd)
    · rw [if_neg hp]
      simp only [Bool.not_eq_true] at hp
      rw [hp]; rfl
theorem countD_eq (ns : List (List Nat)) (v : List Nat) : countD (.lst (dn ns)) (.str v) = some (.int ((ns.count v : Nat) : Int)) := by
  show (strsD (ns.map D.str)).map _ = _
  rw [strsD_map]; rfl
theorem two_ok {g : D} {h : Bool} {n : Nat} (z : Zt h n g) : (ob (isK g .tuple) fun t28 => ob (asB (.bl t28)) fun t27 => rb (if (!t27) = true then .ok (true, ()) else ob (lenD g) fun t30 => ob (neD t30 (.int 2)) fun t29 => .ok (t29, ()) : Res (Bool × Unit)) fun p26 => if p26.1 = true then .ok (.rt (D.bl false)) else .ok (.nx ()) : Res (Fl Unit D)) = if is2 g = true then .ok (.nx ()) else .ok (.rt (D.bl false)) := by
  cases z with
  | tup b e k =>
    rename_i n l
    match l with
    | [] => rfl
    | [_] => rfl
    | [_, _] => rfl
    | a :: c :: q :: r =>
      have e1 : neD (.int ((a :: c :: q :: r).length : Nat)) (.int 2) = some true := by rw [sx_nei]; simp; omega
      simp only [sx_isKt, sx_ob, sx_asB, Bool.not_true, Bool.false_eq_true, if_false, sx_lent, e1, sx_rb, if_true]
      rfl
  | _ => rfl
theorem is2_two {g : D} (h : is2 g = true) : ∃ a b, g = .tup [a, b] := by
  unfold is2 at h
  split at h
  · exact ⟨_, _, rfl⟩
  · cases h
theorem nodup_emp (ns : List (List Nat)) : ((dn ns).filterMap fun d => if 1 < ns.count (txt d) then some d else none).isEmpty = decide ns.Nodup := by
  rw [Bool.eq_iff_iff, List.isEmpty_iff, decide_eq_true_eq, List.nodup_iff_count]
  rw [List.filterMap_eq_nil_iff]
  constructor
  · intro h a
    by_cases ha : a ∈ ns
    · have := h (.str a) (List.mem_map.mpr ⟨a, ha, rfl⟩)
      by_cases hc : 1 < ns.count a
      · rw [if_pos (show 1 < ns.count (txt (.str a)) from hc)] at this; cases this
      · omega
    · rw [List.count_eq_zero_of_not_mem ha]; omega
  · intro h d hd
    rw [if_neg]
    have := h (txt d)
    omega
theorem lnet_ok {d : D} (h : Zn d) : m__law_good d = .ok (.bl (netB d)) := by
  have hz := h.z
  cases hz with
  | tup b e k =>
    rename_i l
    match l, e, h with
    | [], _, _ => rfl
    | [x], _, _ => cases x <;> rfl
    | a :: c :: q :: r, e, _ =>
      unfold m__law_good
      have e1 : neD (.int ((a :: c :: q :: r).length : Nat)) (.int 2) = some true := by rw [sx_nei]; simp; omega
      simp only [sx_isKt, sx_ob, sx_asB, Bool.not_true, Bool.false_eq_true, if_false, sx_lent, e1, sx_rb, if_true]
      cases a <;> first | rfl | (cases c <;> rfl)
    | [a, c], e, h =>
      have za := e a (by simp)
      have zc := e c (by simp)
      unfold m__law_good
      have e1 : neD (.int (([a, c] : List D).length : Nat)) (.int 2) = some false := by rw [sx_nei]; rfl
      simp only [sx_isKt, sx_ob, sx_asB, Bool.not_true, Bool.false_eq_true, if_false, sx_lent, e1, sx_rb, sx_t0, sx_t1]
      cases za with
      | lst ba ea =>
        rename_i ins
        cases zc with
        | lst bc ec =>
          rename_i gs
          have hr := h.r ins gs rfl
          simp only [sx_isKl, sx_ob, sx_asB, if_true, Bool.not_true, Bool.false_eq_true, if_false, sx_rb, sx_len, sx_gt, sx_lt]
          by_cases c1 : ins.length ≤ 4 ∧ 1 ≤ gs.length ∧ gs.length ≤ 7
          · rw [show decide ((4 : Int) < (ins.length : Int)) = false from decide_eq_false (by omega), show decide ((0 : Int) < (gs.length : Int)) = true from decide_eq_true (by omega), show decide ((gs.length : Int) < 8) = true from decide_eq_true (by omega)]
            simp only [Bool.false_eq_true, if_false, if_true, sx_rb, Bool.not_true, sx_asL, sx_ob]
            rw [first_rt (P := is2) (x := D.bl false) gs fun g hg => two_ok (ec g hg)]
            simp only [netB, decide_eq_true c1.1, decide_eq_true c1.2.1, decide_eq_true c1.2.2, Bool.true_and]
            by_cases g0 : gs.all is2 = true
            · rw [if_pos g0]
              simp only [sx_rb, sx_on1]
              rw [fmR_map (g := fstD) gs fun g hg => by
                obtain ⟨x, y, rfl⟩ := is2_two (List.all_eq_true.mp g0 g hg)
                rfl]
              have hg2 : gs.all goodG = (gs.map fstD).all goodN := by
                rw [List.all_map, Bool.eq_iff_iff, List.all_eq_true, List.all_eq_true]
                refine forall_congr' fun g => forall_congr' fun hg => ?_
                obtain ⟨x, y, rfl⟩ := is2_two (List.all_eq_true.mp g0 g hg)
                rfl
              simp only [sx_rb, VL.cat_l (show ins.length + (gs.map fstD).length ≤ 16777216 by rw [List.length_map]; omega), sx_ob]
              rw [fil_ok (p := goodN) (ins ++ gs.map fstD) fun d hd => lname_ok1 (by
                rcases List.mem_append.mp hd with hd | hd
                · exact (ea d hd).zs
                · obtain ⟨g, hg, rfl⟩ := List.mem_map.mp hd
                  obtain ⟨x, y, rfl⟩ := is2_two (List.all_eq_true.mp g0 g hg)
                  have := ec _ hg
                  cases this with
                  | tup _ e _ => exact (e x (by simp)).zs)]
              simp only [sx_rb, neN_nil, sx_ob, emp_all]
              by_cases g1 : (ins ++ gs.map fstD).all goodN = true
              · have g1' := g1
                rw [List.all_append, Bool.and_eq_true] at g1'
                have g2 : gs.all goodG = true := hg2.trans g1'.2
                simp only [g1, g1'.1, g2, Bool.not_true, Bool.false_eq_true, if_false, Bool.true_and]
                rw [ws_dn g1'.1 g2]
                rw [fmR_eq (g := fun d => if 1 < (wsOf ins gs).count (txt d) then some d else none) (dn (wsOf ins gs)) fun d hd => by
                  obtain ⟨w, hw, rfl⟩ := List.mem_map.mp hd
                  simp only [countD_eq, sx_ob, sx_gt, txt, decide_eq_true_eq]
                  by_cases hc : 1 < (wsOf ins gs).count w
                  · rw [if_pos (show (1 : Int) < (((wsOf ins gs).count w : Nat) : Int) by omega)]; exact congrArg Res.ok (if_pos hc).symm
                  · rw [if_neg (show ¬ (1 : Int) < (((wsOf ins gs).count w : Nat) : Int) by omega)]; exact congrArg Res.ok (if_neg hc).symm]
                simp only [sx_rb, neN_nil, sx_ob, nodup_emp]
                by_cases nd : (wsOf ins gs).Nodup
                · simp only [decide_eq_true nd, Bool.not_true, Bool.false_eq_true, if_false, Bool.true_and]
                  rw [fmR_eq (g := fun g => if (!goodR (wsOf ins gs) 10 (sndD g)) = true then some g else none) gs fun g hg => by
                    obtain ⟨x, y, rfl⟩ := is2_two (List.all_eq_true.mp g0 g hg)
                    have := lrule_ok (ns := wsOf ins gs) 24 10 20 y (by decide) (by decide) (hr _ hg x y rfl)
                    rw [show (11 - ((10 : Nat) : Int)) = 1 from rfl] at this
                    rw [sx_t1, sx_ob, this]
                    simp only [sx_rb, sx_asB, sx_ob, sndD]
                    by_cases hq : (!goodR (wsOf ins gs) 10 y) = true
                    · rw [if_pos hq]; exact congrArg Res.ok (if_pos hq).symm
                    · rw [if_neg hq]; exact congrArg Res.ok (if_neg hq).symm]
                  rw [sx_rb, eqN_nil, sx_ob, emp_map (f := fun g => g)]
                · simp only [decide_eq_false nd, Bool.not_false, if_true, Bool.false_and]
              · simp only [Bool.not_eq_true] at g1
                have : (ins.all goodN && gs.all goodG) = false := by rw [hg2, ← List.all_append, g1]
                simp only [g1, this, Bool.not_false, if_true, Bool.false_and]
            · rw [if_neg g0]
              have : gs.all goodG = false := by
                rw [Bool.eq_false_iff]
                intro hh
                refine g0 (List.all_eq_true.mpr fun g hg => ?_)
                obtain ⟨x, y, rfl, _⟩ := goodG_two (List.all_eq_true.mp hh g hg)
                rfl
              simp only [this, Bool.and_false, Bool.false_and, sx_rb, sx_on2]
          · have hn : netB (.tup [.lst ins, .lst gs]) = false := by
              simp only [netB]
              rw [show (decide (ins.length ≤ 4) && (decide (1 ≤ gs.length) && decide (gs.length ≤ 7))) = false from ?_, Bool.false_and]
              rw [Bool.eq_false_iff]
              simp only [Ne, Bool.and_eq_true, decide_eq_true_eq]
              exact c1
            rw [hn]
            by_cases c2 : 4 < ins.length
            · rw [show decide ((4 : Int) < (ins.length : Int)) = true from decide_eq_true (by omega)]
              rfl
            · rw [show decide ((4 : Int) < (ins.length : Int)) = false from decide_eq_false (by omega)]
              by_cases c3 : 1 ≤ gs.length
              · rw [show decide ((0 : Int) < (gs.length : Int)) = true from decide_eq_true (by omega), show decide ((gs.length : Int) < 8) = false from decide_eq_false (by omega)]
                rfl
              · rw [show decide ((0 : Int) < (gs.length : Int)) = false from decide_eq_false (by omega)]
                rfl
        | _ => rfl
      | _ => cases c <;> rfl
  | _ => rfl
theorem right_ok {d : D} (h : Zn d) : m__law_right d = .ok (.bl true) := by
  unfold m__law_right
  rw [lnet_ok h, sx_rb, h.z.deep 24 (by decide), sx_rb, pnet_ok h, sx_rb]
  have e1 : isK (.bl (netB d)) .bool = some true := rfl
  simp only [e1, sx_ob, sx_asB, if_true, sx_eqb, beq_self_eq_true, h.z.eqS (by decide), sx_rb]
end W

namespace W
open PySem VL SSN PyProof.Rows
/-! what is drawn: a rule bent, odd things, a wire named otherwise -/
theorem al0 {P : D → Prop} : ∀ d ∈ ([] : List D), P d := fun d hd => by cases hd
theorem alc {P : D → Prop} {a : D} {l : List D} (h : P a) (k : ∀ d ∈ l, P d) : ∀ d ∈ a :: l, P d := fun d hd => by
  rcases List.mem_cons.mp hd with e | e
  · rw [e]; exact h
  · exact k d e
theorem at_mem {l : List D} {k : Nat} (h : k < l.length) : ∃ d, ixD (.lst l) (.int (k : Nat)) = some d ∧ d ∈ l := ⟨l[k], ix_l (List.getElem?_eq_getElem h), List.getElem_mem h⟩
theorem odd_ok {d : List (List D) × D} (h : Dk d) {n : Nat} {t : D} (zt : Zt true n t) (pt : t.plain = true) : Sat (m__law_odd d t) (fun r => Zt true (n + 2) r.1 ∧ Dk r.2) := by
  have s : ∀ {m : Nat} {w : List Nat}, w.length ≤ 1000 → Zt true m (.str w) := fun h => .str h
  have z1 : Zt true (n + 1) t := zt.mono (by omega)
  have hs : ∀ {w : List Nat} {r : List D}, true = true → headOk (.str w :: r) := fun _ => .inl rfl
  unfold m__law_odd
  refine sat_ob (VL.cat_l (by simp)) (sat_ob (VL.cat_l (by simp)) (sat_ob (VL.cat_l (by simp)) (sat_ob (VL.cat_l (by simp)) (sat_ob (VL.cat_l (by simp)) (sat_rb (draw_ok (n := 30) h (by decide) (by decide)) fun r7 ⟨⟨k, ek, hk⟩, dk⟩ => ?_)))))
  rw [ek]
  obtain ⟨x, ex, hx⟩ := at_mem (l := [.non, (.int 5), (.bl true), (.str qx_), (.str q_a), (.str q_A), (.str q_abcdefghi), (.str q_a1), (.str q_wire), (.lst []), (.tup []), (.dct false []), (.lst [t]), (.tup [t])] ++ [(.tup [(.str q_wire)]), (.tup [(.str q_wire), (.str q_nope)])] ++ [(.tup [(.str q_not), t]), (.tup [(.str q_and), t]), (.tup [(.str q_or), t, t]), (.tup [(.str q_wire), .non])] ++ [(.tup [(.str q_xor), t, t]), (.lst [(.str q_wire), (.str q_a)])] ++ [(.tup [(.str q_not), t, t]), (.tup [(.str q_and), t, t, t]), (.tup [.non, t]), (.tup [(.str q_wire), (.lst [(.str q_a)])])] ++ [(.tup [(.str q_a), (.str q_b)]), (.tup [(.str qx_), (.tup [(.str q_wire), (.str q_a)])]), (.tup [(.lst [(.str q_and)]), t, t]), (.tup [(.dct false []), t])]) (k := k) (by simp; omega)
  refine sat_ob ex (sat_ok ⟨?_, dk⟩)
  simp only [List.cons_append, List.nil_append, List.mem_cons, List.not_mem_nil, or_false] at hx
  rcases hx with h | h | h | h | h | h | h | h | h | h | h | h | h | h | h | h | h | h | h | h | h | h | h | h | h | h | h | h | h | h <;> subst h
  · exact .non
  · exact .int _
  · exact .bl _
  · exact s (by decide)
  · exact s (by decide)
  · exact s (by decide)
  · exact s (by decide)
  · exact s (by decide)
  · exact s (by decide)
  · exact .lst (by simp) al0
  · exact .tup (by simp) al0 fun _ => trivial
  · exact .dct
  · exact .lst (by simp) (alc z1 al0)
  · exact .tup (by simp) (alc z1 al0) fun _ => .inl pt
  · exact .tup (by simp) (alc (s (by decide)) al0) hs
  · exact .tup (by simp) (alc (s (by decide)) (alc (s (by decide)) al0)) hs
  · exact .tup (by simp) (alc (s (by decide)) (alc z1 al0)) hs
  · exact .tup (by simp) (alc (s (by decide)) (alc z1 al0)) hs
  · exact .tup (by simp) (alc (s (by decide)) (alc z1 (alc z1 al0))) hs
  · exact .tup (by simp) (alc (s (by decide)) (alc .non al0)) hs
  · exact .tup (by simp) (alc (s (by decide)) (alc z1 (alc z1 al0))) hs
  · exact .lst (by simp) (alc (s (by decide)) (alc (s (by decide)) al0))
  · exact .tup (by simp) (alc (s (by decide)) (alc z1 (alc z1 al0))) hs
  · exact .tup (by simp) (alc (s (by decide)) (alc z1 (alc z1 (alc z1 al0)))) hs
  · exact .tup (by simp) (alc .non (alc z1 al0)) fun _ => .inl rfl
  · exact .tup (by simp) (alc (s (by decide)) (alc (.lst (by simp) (alc (s (by decide)) al0)) al0)) hs
  · exact .tup (by simp) (alc (s (by decide)) (alc (s (by decide)) al0)) hs
  · exact .tup (by simp) (alc (s (by decide)) (alc (.tup (by simp) (alc (s (by decide)) (alc (s (by decide)) al0)) hs) al0)) hs
  · exact .tup (by simp) (alc (.lst (by simp) (alc (s (by decide)) al0)) (alc z1 (alc z1 al0))) fun _ => .inl rfl
  · exact .tup (by simp) (alc .dct (alc z1 al0)) fun _ => .inr rfl
/-! rules -/
def Rl.sm : Rl → Prop
  | .wire n => n.length ≤ 1000
  | .neg r => r.sm
  | .conj a b => a.sm ∧ b.sm
  | .disj a b => a.sm ∧ b.sm
theorem Rl.sm_of {ns : List (List Nat)} (h : ∀ w ∈ ns, Word w) : ∀ R : Rl, R.over ns → R.sm
  | .wire n, o => by have := (h n o).l1; show n.length ≤ 1000; omega
  | .neg r, o => Rl.sm_of h r o
  | .conj a b, o => ⟨Rl.sm_of h a o.1, Rl.sm_of h b o.2⟩
  | .disj a b, o => ⟨Rl.sm_of h a o.1, Rl.sm_of h b o.2⟩
theorem Rl.zt : ∀ R : Rl, R.sm → Zt true R.dp R.d
  | .wire n, o => .tup (by simp) (alc (.str (by decide)) (alc (.str o) al0)) fun _ => .inl rfl
  | .neg r, o => by
    have := Rl.zt r o
    exact .tup (by simp) (alc (.str (by decide)) (alc this al0)) fun _ => .inl rfl
  | .conj a b, o => by
    have h1 := Rl.zt a o.1
    have h2 := Rl.zt b o.2
    exact (Zt.tup (n := max a.dp b.dp) (by simp) (alc (.str (by decide)) (alc (h1.mono (by omega)) (alc (h2.mono (by omega)) al0))) fun _ => .inl rfl).mono (by simp only [Rl.dp]; omega)
  | .disj a b, o => by
    have h1 := Rl.zt a o.1
    have h2 := Rl.zt b o.2
    exact (Zt.tup (n := max a.dp b.dp) (by simp) (alc (.str (by decide)) (alc (h1.mono (by omega)) (alc (h2.mono (by omega)) al0))) fun _ => .inl rfl).mono (by simp only [Rl.dp]; omega)
end W

namespace W
open PySem VL SSN PyProof.Rows
/-! a name read otherwise -/
def Rl.ren (a b : List Nat) : Rl → Rl
  | .wire n => .wire (if n = a then b else n)
  | .neg r => .neg (r.ren a b)
  | .conj x y => .conj (x.ren a b) (y.ren a b)
  | .disj x y => .disj (x.ren a b) (y.ren a b)
theorem Rl.ren_dp (a b : List Nat) : ∀ R : Rl, (R.ren a b).dp = R.dp
  | .wire n => rfl
  | .neg r => by simp only [Rl.ren, Rl.dp, Rl.ren_dp a b r]
  | .conj x y => by simp only [Rl.ren, Rl.dp, Rl.ren_dp a b x, Rl.ren_dp a b y]
  | .disj x y => by simp only [Rl.ren, Rl.dp, Rl.ren_dp a b x, Rl.ren_dp a b y]
theorem Rl.ren_sm {a b : List Nat} (hb : b.length ≤ 1000) : ∀ R : Rl, R.sm → (R.ren a b).sm
  | .wire n, o => by
    show (if n = a then b else n).length ≤ 1000
    split
    · exact hb
    · exact o
  | .neg r, o => Rl.ren_sm hb r o
  | .conj x y, o => ⟨Rl.ren_sm hb x o.1, Rl.ren_sm hb y o.2⟩
  | .disj x y, o => ⟨Rl.ren_sm hb x o.1, Rl.ren_sm hb y o.2⟩
theorem pick_w (n a b : List Nat) : ixD (.lst [.str n, .str b]) (.int (if (n == a) = true then 1 else 0)) = some (.str (if n = a then b else n)) := by
  by_cases h : n = a
  · rw [if_pos (by simpa using h), if_pos h]; exact sx_l1
  · rw [if_neg (by simpa using h), if_neg h]; exact sx_l0
theorem read_ok (a b : List Nat) : ∀ (fu : Nat) (R : Rl), R.dp ≤ fu → m__law_read_as fu R.d (.str a) (.str b) = .ok (R.ren a b).d
  | 0, R, h => by cases R <;> simp [Rl.dp] at h
  | fu + 1, .wire n, h => by
    rw [m__law_read_as]
    simp only [Rl.d, sx_t0, sx_t1, sx_ob, sx_eqs, beq_self_eq_true, if_true, sx_intB, pick_w]
    rfl
  | fu + 1, .neg r, h => by
    simp only [Rl.dp] at h
    rw [m__law_read_as]
    have e1 : slT (some 1) none (.tup [.str q_not, r.d]) = some (.tup [r.d]) := rfl
    have e2 : asTup (.tup [r.d]) = some [r.d] := rfl
    have e3 : fmR [r.d] (fun d11 => rb (m__law_read_as fu d11 (.str a) (.str b)) fun r16 => .ok (some r16)) = .ok [(r.ren a b).d] := by
      simp only [fmR, read_ok a b fu r (by omega), sx_rb]
    simp only [Rl.d, sx_t0, sx_ob, sx_eqs, k_nw, Bool.false_eq_true, if_false, sx_asI, e1, e2, e3, sx_rb]
    rfl
  | fu + 1, .conj x y, h => by
    simp only [Rl.dp] at h
    rw [m__law_read_as]
    have e1 : slT (some 1) none (.tup [.str q_and, x.d, y.d]) = some (.tup [x.d, y.d]) := rfl
    have e2 : asTup (.tup [x.d, y.d]) = some [x.d, y.d] := rfl
    have e3 : fmR [x.d, y.d] (fun d11 => rb (m__law_read_as fu d11 (.str a) (.str b)) fun r16 => .ok (some r16)) = .ok [(x.ren a b).d, (y.ren a b).d] := by
      simp only [fmR, read_ok a b fu x (by omega), read_ok a b fu y (by omega), sx_rb]
    simp only [Rl.d, sx_t0, sx_ob, sx_eqs, k_aw, Bool.false_eq_true, if_false, sx_asI, e1, e2, e3, sx_rb]
    rfl
  | fu + 1, .disj x y, h => by
    simp only [Rl.dp] at h
    rw [m__law_read_as]
    have e1 : slT (some 1) none (.tup [.str q_or, x.d, y.d]) = some (.tup [x.d, y.d]) := rfl
    have e2 : asTup (.tup [x.d, y.d]) = some [x.d, y.d] := rfl
    have e3 : fmR [x.d, y.d] (fun d11 => rb (m__law_read_as fu d11 (.str a) (.str b)) fun r16 => .ok (some r16)) = .ok [(x.ren a b).d, (y.ren a b).d] := by
      simp only [fmR, read_ok a b fu x (by omega), read_ok a b fu y (by omega), sx_rb]
    simp only [Rl.d, sx_t0, sx_ob, sx_eqs, k_ow, Bool.false_eq_true, if_false, sx_asI, e1, e2, e3, sx_rb]
    rfl
end W

namespace W
open PySem VL SSN PyProof.Rows
/-! a rule bent -/
theorem sl2a (a b : D) : slT none (some 1) (.tup [a, b]) = some (.tup [a]) := rfl
theorem sl2b (a b : D) : slT (some 2) none (.tup [a, b]) = some (.tup []) := rfl
theorem ad10 : addD (.int 1) (.int ((0 : Nat) : Int)) = some (.int 1) := rfl
theorem ad11 : addD (.int 1) (.int ((1 : Nat) : Int)) = some (.int 2) := rfl
theorem sl3a (a b c : D) : slT none (some 1) (.tup [a, b, c]) = some (.tup [a]) := rfl
theorem sl3b (a b c : D) : slT (some 2) none (.tup [a, b, c]) = some (.tup [c]) := rfl
theorem sl3c (a b c : D) : slT none (some 2) (.tup [a, b, c]) = some (.tup [a, b]) := rfl
theorem sl3d (a b c : D) : slT (some 3) none (.tup [a, b, c]) = some (.tup []) := rfl
theorem ct11 (a b : D) : catT (.tup [a]) (.tup [b]) = some (.tup [a, b]) := rfl
theorem ct20 (a b : D) : catT (.tup [a, b]) (.tup []) = some (.tup [a, b]) := rfl
theorem ct21 (a b c : D) : catT (.tup [a, b]) (.tup [c]) = some (.tup [a, b, c]) := rfl
theorem ct30 (a b c : D) : catT (.tup [a, b, c]) (.tup []) = some (.tup [a, b, c]) := rfl
theorem ln2 (a b : D) : lenD (.tup [a, b]) = some (.int 2) := rfl
theorem ln3 (a b c : D) : lenD (.tup [a, b, c]) = some (.int 3) := rfl
theorem sb2 : subD (.int 2) (.int 1) = some (.int ((1 : Nat) : Int)) := rfl
theorem sb3 : subD (.int 3) (.int 1) = some (.int ((2 : Nat) : Int)) := rfl
def hdw : Rl → List Nat
  | .wire _ => q_wire
  | .neg _ => q_not
  | .conj _ _ => q_and
  | .disj _ _ => q_or
theorem bent_ok : ∀ (fu : Nat) (R : Rl) (d : List (List D) × D), R.sm → R.dp ≤ fu → Dk d → Sat (m__law_bent fu d R.d) (fun r => Zt true (R.dp + 2) r.1 ∧ Dk r.2)
  | 0, R, d, _, hf, _ => by cases R <;> simp [Rl.dp] at hf
  | fu + 1, R, d, sm, hf, dk => by
    have zR := Rl.zt R sm
    have pR := Rl.plain R
    rw [m__law_bent]
    refine sat_rb (draw_ok (n := 6) dk (by decide) (by decide)) fun r2 ⟨⟨k, ek, hk⟩, dk2⟩ => ?_
    rw [ek]
    refine sat_ob (sx_eqi _ _) (sat_if (fun _ => ?_) fun _ => ?_)
    · refine sat_ob (sx_neg 1) ?_
      have z2 := zR.mono (show R.dp ≤ R.dp + 2 by omega)
      cases R with
      | wire n =>
        refine sat_ob (c := .str n) rfl (sat_ob (c := .tup [.str q_wire, .str n, .str n]) rfl (sat_ok ⟨?_, dk2⟩))
        exact .tup (by simp) (alc (.str (by decide)) (alc (.str sm) (alc (.str sm) al0))) fun _ => .inl rfl
      | neg r =>
        have h1 := Rl.zt r sm
        refine sat_ob (c := r.d) rfl (sat_ob (c := .tup [.str q_not, r.d, r.d]) rfl (sat_ok ⟨?_, dk2⟩))
        exact .tup (by simp) (alc (.str (by decide)) (alc (h1.mono (by simp only [Rl.dp]; omega)) (alc (h1.mono (by simp only [Rl.dp]; omega)) al0))) fun _ => .inl rfl
      | conj a b =>
        have h1 := Rl.zt a sm.1
        have h2 := Rl.zt b sm.2
        refine sat_ob (c := b.d) rfl (sat_ob (c := .tup [.str q_and, a.d, b.d, b.d]) rfl (sat_ok ⟨?_, dk2⟩))
        exact .tup (by simp) (alc (.str (by decide)) (alc (h1.mono (by simp only [Rl.dp]; omega)) (alc (h2.mono (by simp only [Rl.dp]; omega)) (alc (h2.mono (by simp only [Rl.dp]; omega)) al0)))) fun _ => .inl rfl
      | disj a b =>
        have h1 := Rl.zt a sm.1
        have h2 := Rl.zt b sm.2
        refine sat_ob (c := b.d) rfl (sat_ob (c := .tup [.str q_or, a.d, b.d, b.d]) rfl (sat_ok ⟨?_, dk2⟩))
        exact .tup (by simp) (alc (.str (by decide)) (alc (h1.mono (by simp only [Rl.dp]; omega)) (alc (h2.mono (by simp only [Rl.dp]; omega)) (alc (h2.mono (by simp only [Rl.dp]; omega)) al0)))) fun _ => .inl rfl
    · have e8 : ixD R.d (.int 0) = some (.str (hdw R)) := by cases R <;> rfl
      refine sat_ob e8 (sat_ob (sx_eqs _ _) (sat_rb (P := fun p => Dk p.2 ∧ (p.1 = false → ∀ n, R ≠ .wire n)) ?_ fun p6 ⟨dk6, hp⟩ => sat_if (fun _ => ?_) fun hn => ?_))
      · refine sat_if (fun _ => sat_ok ⟨dk2, fun h => by cases h⟩) fun hw => sat_rb (draw_ok (n := 4) dk2 (by decide) (by decide)) fun r10 ⟨⟨j, ej, hj⟩, dk10⟩ => ?_
        rw [ej]
        exact sat_ob (sx_eqi _ _) (sat_ok ⟨dk10, fun _ n e => hw (by rw [e]; exact beq_self_eq_true _)⟩)
      · exact sat_rb (odd_ok dk6 zR pR) fun r ⟨z, dk⟩ => sat_ok ⟨z, dk⟩
      · have hw := hp (by simpa using hn)
        cases R with
        | wire n => exact absurd rfl (hw n)
        | neg r =>
          have h1 := Rl.zt r sm
          refine sat_ob (ln2 _ _) (sat_ob sb2 (sat_rb (draw_ok (n := 1) dk6 (by decide) (by decide)) fun r13 ⟨⟨j, ej, hj⟩, dk13⟩ => ?_))
          rw [ej]
          match j, hj with
          | 0, _ =>
            refine sat_ob ad10 (sat_ob (sx_asI _) (sat_ob (sl2a _ _) (sat_ob sx_t1 (sat_rb (bent_ok fu r r13.2 sm (by simp only [Rl.dp] at hf; omega) dk13) fun r20 ⟨z20, dk20⟩ => ?_))))
            refine sat_ob (ct11 _ _) (sat_ob (sx_add _ _) (sat_ob (sx_asI _) (sat_ob (sl2b _ _) (sat_ob (ct20 _ _) (sat_ok ⟨?_, dk20⟩)))))
            exact .tup (by simp) (alc (.str (by decide)) (alc (z20.mono (by simp only [Rl.dp]; omega)) al0)) fun _ => .inl rfl
        | conj a b =>
          have h1 := Rl.zt a sm.1
          have h2 := Rl.zt b sm.2
          refine sat_ob (ln3 _ _ _) (sat_ob sb3 (sat_rb (draw_ok (n := 2) dk6 (by decide) (by decide)) fun r13 ⟨⟨j, ej, hj⟩, dk13⟩ => ?_))
          rw [ej]
          match j, hj with
          | 0, _ =>
            refine sat_ob ad10 (sat_ob (sx_asI _) (sat_ob (sl3a _ _ _) (sat_ob sx_t1 (sat_rb (bent_ok fu a r13.2 sm.1 (by simp only [Rl.dp] at hf; omega) dk13) fun r20 ⟨z20, dk20⟩ => ?_))))
            refine sat_ob (ct11 _ _) (sat_ob (sx_add _ _) (sat_ob (sx_asI _) (sat_ob (sl3b _ _ _) (sat_ob (ct21 _ _ _) (sat_ok ⟨?_, dk20⟩)))))
            exact .tup (by simp) (alc (.str (by decide)) (alc (z20.mono (by simp only [Rl.dp]; omega)) (alc (h2.mono (by simp only [Rl.dp]; omega)) al0))) fun _ => .inl rfl
          | 1, _ =>
            refine sat_ob ad11 (sat_ob (sx_asI _) (sat_ob (sl3c _ _ _) (sat_ob sx_t2 (sat_rb (bent_ok fu b r13.2 sm.2 (by simp only [Rl.dp] at hf; omega) dk13) fun r20 ⟨z20, dk20⟩ => ?_))))
            refine sat_ob (ct21 _ _ _) (sat_ob (sx_add _ _) (sat_ob (sx_asI _) (sat_ob (sl3d _ _ _) (sat_ob (ct30 _ _ _) (sat_ok ⟨?_, dk20⟩)))))
            exact .tup (by simp) (alc (.str (by decide)) (alc (h1.mono (by simp only [Rl.dp]; omega)) (alc (z20.mono (by simp only [Rl.dp]; omega)) al0))) fun _ => .inl rfl
        | disj a b =>
          have h1 := Rl.zt a sm.1
          have h2 := Rl.zt b sm.2
          refine sat_ob (ln3 _ _ _) (sat_ob sb3 (sat_rb (draw_ok (n := 2) dk6 (by decide) (by decide)) fun r13 ⟨⟨j, ej, hj⟩, dk13⟩ => ?_))
          rw [ej]
          match j, hj with
          | 0, _ =>
            refine sat_ob ad10 (sat_ob (sx_asI _) (sat_ob (sl3a _ _ _) (sat_ob sx_t1 (sat_rb (bent_ok fu a r13.2 sm.1 (by simp only [Rl.dp] at hf; omega) dk13) fun r20 ⟨z20, dk20⟩ => ?_))))
            refine sat_ob (ct11 _ _) (sat_ob (sx_add _ _) (sat_ob (sx_asI _) (sat_ob (sl3b _ _ _) (sat_ob (ct21 _ _ _) (sat_ok ⟨?_, dk20⟩)))))
            exact .tup (by simp) (alc (.str (by decide)) (alc (z20.mono (by simp only [Rl.dp]; omega)) (alc (h2.mono (by simp only [Rl.dp]; omega)) al0))) fun _ => .inl rfl
          | 1, _ =>
            refine sat_ob ad11 (sat_ob (sx_asI _) (sat_ob (sl3c _ _ _) (sat_ob sx_t2 (sat_rb (bent_ok fu b r13.2 sm.2 (by simp only [Rl.dp] at hf; omega) dk13) fun r20 ⟨z20, dk20⟩ => ?_))))
            refine sat_ob (ct21 _ _ _) (sat_ob (sx_add _ _) (sat_ob (sx_asI _) (sat_ob (sl3d _ _ _) (sat_ob (ct30 _ _ _) (sat_ok ⟨?_, dk20⟩)))))
            exact .tup (by simp) (alc (.str (by decide)) (alc (h1.mono (by simp only [Rl.dp]; omega)) (alc (z20.mono (by simp only [Rl.dp]; omega)) al0))) fun _ => .inl rfl
end W

namespace W
open PySem VL SSN PyProof.Rows
/-! a wire named otherwise; rules of any depth; what fits but perhaps the bounds -/
/-- what stands among the gates -/
def Ge (g : D) : Prop := Zt false 16 g ∧ ∀ a b, g = .tup [a, b] → Zt true 16 b
theorem ge_of {n : Nat} {g : D} (z : Zt true n g) (hn : n ≤ 16) : Ge g := ⟨z.weak.mono hn, fun a b e => by
  subst e
  cases z with
  | tup _ e _ => exact (e b (by simp)).mono (by omega)⟩
theorem ge_two {n : Nat} {a b : D} (z : Zt false n a) (k : Zt true n b) (hn : n ≤ 15) : Ge (.tup [a, b]) :=
  ⟨(Zt.tup (n := n) (by simp) (alc z (alc k.weak al0)) fun h => by cases h).mono (by omega), fun a' b' e => by cases e; exact k.mono (by omega)⟩
theorem zn_net {ins gs : List D} (h1 : ins.length ≤ 1000) (h2 : gs.length ≤ 1000) (k1 : ∀ d ∈ ins, Zt false 16 d) (k2 : ∀ g ∈ gs, Ge g) : Zn (.tup [.lst ins, .lst gs]) :=
  ⟨(Zt.tup (n := 17) (by simp) (alc (.lst h1 k1) (alc (.lst h2 fun g hg => (k2 g hg).1) al0)) fun h => by cases h).mono (by omega), fun ins' gs' e g hg a b eg => by cases e; exact ((k2 g hg).2 a b eg).mono (by omega)⟩
theorem gd_ge {g : List Nat × Rl} (h1 : g.1.length ≤ 1000) (h2 : g.2.sm) (h3 : g.2.dp ≤ 15) : Ge (gD g) := ge_two (n := 15) (.str h1) ((Rl.zt _ h2).mono h3) (by omega)
theorem cut_le1 {α : Type} (l : List α) (lo hi : Option Int) : (VL.cut l lo hi).length ≤ l.length := by
  unfold VL.cut
  rw [List.length_take, List.length_drop]
  omega
theorem slS_any {s : List Nat} (lo hi : Option Int) (h : s.length ≤ 900) : slS lo hi (.str s) = some (.str (VL.cut s lo hi)) := by
  show (if _ then _ else none) = _
  rw [if_pos (by omega)]
theorem net_zn {N : Nt} (ok : N.Ok) : Zn N.d := by
  have i4 := ok.i
  have g7 := ok.g1
  refine zn_net (by rw [dn_len]; omega) (by rw [List.length_map]; omega) (fun d hd => ?_) fun g hg => ?_
  · obtain ⟨w, hw, rfl⟩ := List.mem_map.mp hd
    have := (ok.w w (List.mem_append_left _ hw)).l1
    exact .str (by omega)
  · obtain ⟨p, hp, rfl⟩ := List.mem_map.mp hg
    have := (ok.w p.1 (List.mem_append_right _ (List.mem_map.mpr ⟨p, hp, rfl⟩))).l1
    have h2 := ok.r p hp
    exact gd_ge (by omega) (Rl.sm_of ok.w _ h2.2) (by omega)
theorem gates_names (N : Nt) : fmR (N.gs.map gD) (fun d => ob (ixD d (.int 0)) fun t => .ok (some t)) = .ok (dn N.gn) := by
  rw [fmR_map (g := fstD) _ fun d hd => by
    obtain ⟨p, hp, rfl⟩ := List.mem_map.mp hd
    rfl]
  rw [gn_map]; rfl
theorem sat_fmR {f : D → Res (Option D)} {P : D → D → Prop} : ∀ (ds : List D), (∀ d ∈ ds, Sat (f d) (fun o => ∀ y, o = some y → P d y)) → Sat (fmR ds f) (fun ys => ys.length ≤ ds.length ∧ ∀ y ∈ ys, ∃ d ∈ ds, P d y)
  | [], _ => ⟨[], rfl, Nat.le_refl _, fun y hy => absurd hy (by simp)⟩
  | d :: r, h => by
    refine sat_rb (h d List.mem_cons_self) fun o ho => ?_
    refine sat_rb (sat_fmR r fun d hd => h d (List.mem_cons_of_mem _ hd)) fun ys hys => ?_
    obtain ⟨hl, hy⟩ := hys
    cases o with
    | none => exact sat_ok ⟨by simp; omega, fun y hm => let ⟨d, a, b⟩ := hy y hm; ⟨d, List.mem_cons_of_mem _ a, b⟩⟩
    | some x =>
      refine sat_ok ⟨by simp; omega, fun y hm => ?_⟩
      rcases List.mem_cons.mp hm with e | e
      · subst e; exact ⟨d, List.mem_cons_self, ho _ rfl⟩
      · obtain ⟨d, a, b⟩ := hy y e
        exact ⟨d, List.mem_cons_of_mem _ a, b⟩
theorem nd_0 (N : Nt) : ixD N.d (.int 0) = some (.lst (dn N.ins)) := sx_t0
theorem nd_1 (N : Nt) : ixD N.d (.int 1) = some (.lst (N.gs.map gD)) := sx_t1
theorem named_ok {d : List (List D) × D} (h : Dk d) {N : Nt} (ok : N.Ok) : Sat (m__law_named d N.d) (fun r => Zn r.1 ∧ Dk r.2) := by
  have i4 := ok.i
  have g7 := ok.g1
  have g0 := ok.g0
  have wl := N.ws_len
  unfold m__law_named
  refine sat_ob (nd_0 N) (sat_ob (nd_1 N) (sat_ob (sx_asL _) (sat_rbe (gates_names N) (sat_ob (cat_dn (by show N.ins.length + (N.gs.map (·.1)).length ≤ 1000; rw [List.length_map]; omega)) ?_))))
  refine sat_ob len_l ?_
  rw [show dn (N.ins ++ N.gn) = dn N.ws from rfl, dn_len]
  refine sat_rb (draw_ok h (n := N.ws.length) (by omega) (by omega)) fun r9 ⟨⟨i, ei, hi⟩, dk⟩ => ?_
  rw [ei]
  refine sat_ob (ix_l (dn_get (List.getElem?_eq_getElem hi))) ?_
  have wn : Word N.ws[i] := ok.w _ (List.getElem_mem hi)
  generalize N.ws[i] = nm at wn
  have n0 := wn.l0
  have n1 := wn.l1
  refine sat_ob (len_s (by omega)) (sat_rb (draw_ok dk (n := nm.length) (by omega) (by omega)) fun r11 ⟨⟨at_, ea, hat⟩, dk⟩ => ?_)
  rw [ea]
  obtain ⟨m, em, hm0, hm1⟩ : ∃ m : Nat, lenD (.str qn_13) = some (.int (m : Nat)) ∧ 0 < m ∧ m = qn_13.length := ⟨qn_13.length, len_s (by decide), by decide, rfl⟩
  have mb : m < 1000 := by rw [hm1]; decide
  refine sat_ob em (sat_rb (draw_ok dk (n := m) hm0 (by omega)) fun r14 ⟨⟨j, ej, hj⟩, dk⟩ => ?_)
  rw [ej]
  have hj' : j < qn_13.length := by omega
  refine sat_ob (ix_sn (List.getElem?_eq_getElem hj') (by decide)) ?_
  generalize qn_13[j] = sign
  refine sat_ob (sx_asS _) (sat_ob (rng_n (n := 9) (by decide)) (sat_rb (letters_ok dk 9) fun p20 ⟨dk, ls, els, hls, _⟩ => ?_))
  rw [els]
  refine sat_ob (join_ch (by omega)) (sat_ob (sx_asI _) (sat_ob (slS_any _ _ (by omega)) ?_))
  have c1 := cut_le1 nm none (some ((at_ : Nat) : Int))
  have c2 := cut_le1 nm (some ((at_ : Nat) : Int)) none
  have c3 := cut_le1 nm (some (((at_ : Nat) : Int) + 1)) none
  refine sat_ob (addS (by simp; omega)) (sat_ob (sx_asI _) (sat_ob (slS_any _ _ (by omega)) (sat_ob (addS (by simp only [List.length_append, List.length_cons, List.length_nil]; omega)) ?_)))
  refine sat_ob (sx_asI _) (sat_ob (slS_any _ _ (by omega)) (sat_ob (addS (by simp; omega)) (sat_ob (sx_add _ _) (sat_ob (sx_asI _) (sat_ob (slS_any _ _ (by omega)) (sat_ob (addS (by simp only [List.length_append, List.length_cons, List.length_nil]; omega)) (sat_ob (addS (by simp; omega)) ?_)))))))
  refine sat_rb (draw_ok dk (n := 9) (by decide) (by decide)) fun r43 ⟨⟨q, eq, hq⟩, dk⟩ => ?_
  rw [eq]
  refine sat_ob (sx_add _ _) (sat_ob (sx_asI _) (sat_ob (slS_any _ _ (by omega)) (sat_ob (VL.cat_l (by simp)) (sat_rb (draw_ok dk (n := 4) (by decide) (by decide)) fun r44 ⟨⟨u, eu, hu⟩, dk⟩ => ?_))))
  rw [eu]
  have c4 := cut_le1 ls none (some (1 + ((q : Nat) : Int)))
  obtain ⟨ot, eot, hot⟩ : ∃ ot : List Nat, ixD (.lst ([.str (VL.cut nm none (some ((at_ : Nat) : Int)) ++ [sign] ++ VL.cut nm (some ((at_ : Nat) : Int)) none), .str (VL.cut nm none (some ((at_ : Nat) : Int)) ++ [sign] ++ VL.cut nm (some (((at_ : Nat) : Int) + 1)) none), .str (nm ++ [sign])] ++ [.str (VL.cut ls none (some (1 + ((q : Nat) : Int))))])) (.int (u : Nat)) = some (.str ot) ∧ ot.length ≤ 1000 := by
    match u, hu with
    | 0, _ => exact ⟨_, ix_l (i := 0) rfl, by simp only [List.length_append, List.length_cons, List.length_nil]; omega⟩
    | 1, _ => exact ⟨_, ix_l (i := 1) rfl, by simp only [List.length_append, List.length_cons, List.length_nil]; omega⟩
    | 2, _ => exact ⟨_, ix_l (i := 2) rfl, by simp only [List.length_append, List.length_cons, List.length_nil]; omega⟩
    | 3, _ => exact ⟨_, ix_l (i := 3) rfl, by omega⟩
  refine sat_ob eot (sat_ob (nd_0 N) (sat_ob (sx_asL _) ?_))
  have one : ∀ a : List Nat, a.length ≤ 1000 → ∃ w : List Nat, ixD (.lst [.str a, .str ot]) (.int (if (a == nm) = true then 1 else 0)) = some (.str w) ∧ w.length ≤ 1000 := fun a ha => by
    refine ⟨_, pick_w a nm ot, ?_⟩
    split
    · exact hot
    · exact ha
  refine sat_rb (sat_fmR (P := fun _ y => Zt false 16 y) _ fun d hd => ?_) fun ys ⟨yl, yz⟩ => ?_
  · obtain ⟨a, ha, rfl⟩ := List.mem_map.mp hd
    have := (ok.w a (List.mem_append_left _ ha)).l1
    obtain ⟨w, ew, hw⟩ := one a (by omega)
    exact sat_ob (sx_eqs _ _) (sat_ob (sx_intB _) (sat_ob ew (sat_ok fun y e => by cases e; exact .str hw)))
  refine sat_ob (nd_1 N) (sat_ob (sx_asL _) (sat_rb (sat_forN (I := fun i (z : List D) => z.length = i ∧ ∀ g ∈ z, Ge g) (N.gs.map gD) [] 0 ⟨rfl, al0⟩ fun i z x hx ⟨zl, zg⟩ => ?_) fun z ⟨zl, zg⟩ => sat_ok ⟨?_, dk⟩))
  · rw [Nat.zero_add] at zl
    have hi' := (List.getElem?_eq_some_iff.mp hx).1
    rw [List.length_map] at hi'
    obtain ⟨g, hg, rfl⟩ := List.mem_map.mp (List.mem_of_getElem? hx)
    have := (ok.w g.1 (List.mem_append_right _ (List.mem_map.mpr ⟨g, hg, rfl⟩))).l1
    have h2 := ok.r g hg
    obtain ⟨w, ew, hw⟩ := one g.1 (by omega)
    refine sat_ob (c := (.str g.1, g.2.d)) rfl (sat_ob (sx_eqs _ _) (sat_ob (sx_intB _) (sat_ob ew (sat_rbe (read_ok nm ot 24 g.2 (by omega)) (sat_ob (ap_l (by omega)) (sat_ok ⟨by simp; omega, fun y hy => ?_⟩))))))
    rcases List.mem_append.mp hy with hy | hy
    · exact zg y hy
    · rw [List.mem_singleton.mp hy]
      exact gd_ge (g := (w, g.2.ren nm ot)) hw (Rl.ren_sm hot _ (Rl.sm_of ok.w _ h2.2)) (by show (g.2.ren nm ot).dp ≤ 15; rw [Rl.ren_dp]; omega)
  · rw [List.length_map, Nat.zero_add] at zl
    rw [dn_len] at yl
    exact zn_net (by omega) (by omega) (fun d hd => (yz d hd).elim fun _ h => h.2) zg
/-! rules of any depth -/
theorem deeprule_ok {w : List Nat} (hw : w.length ≤ 1000) (k : Nat) (hk : k ≤ 12) : Sat (m__law_deep_rule (.str w) (.int ((k + 1 : Nat) : Int))) (fun r => ∃ R : Rl, r = R.d ∧ R.sm ∧ R.dp = k + 1) := by
  unfold m__law_deep_rule
  refine sat_ob (sx_sub _ _) ?_
  rw [show (((k + 1 : Nat) : Int) - 1) = ((k : Nat) : Int) by omega]
  refine sat_ob (rng_n (by omega)) (sat_rb (sat_forN (I := fun i (z : D) => ∃ R : Rl, z = R.d ∧ R.sm ∧ R.dp = i + 1) (rngL k) _ 0 ⟨.wire w, rfl, hw, rfl⟩ fun i z x hx ⟨R, eR, sR, dR⟩ => ?_) fun z ⟨R, eR, sR, dR⟩ => sat_ok ⟨R, eR, sR, by rw [rngL_len] at dR; omega⟩)
  obtain ⟨hi, rfl⟩ := rngL_get hx
  subst eR
  refine sat_ob (sx_add _ _) (sat_ob (mod_i (by decide)) ?_)
  obtain ⟨j, ej, hj⟩ : ∃ j : Nat, (((i : Nat) : Int) + ((k + 1 : Nat) : Int)) % 4 = (j : Nat) ∧ j < 4 := ⟨((((i : Nat) : Int) + ((k + 1 : Nat) : Int)) % 4).toNat, by omega, by omega⟩
  rw [ej]
  match j, hj with
  | 0, _ => exact sat_ob (ix_l (i := 0) rfl) (sat_ok ⟨.neg R, rfl, sR, by simp only [Rl.dp]; omega⟩)
  | 1, _ => exact sat_ob (ix_l (i := 1) rfl) (sat_ok ⟨.conj (.wire w) R, rfl, ⟨hw, sR⟩, by simp only [Rl.dp]; omega⟩)
  | 2, _ => exact sat_ob (ix_l (i := 2) rfl) (sat_ok ⟨.disj R R, rfl, ⟨sR, sR⟩, by simp only [Rl.dp]; omega⟩)
  | 3, _ => exact sat_ob (ix_l (i := 3) rfl) (sat_ok ⟨.conj R (.wire w), rfl, ⟨sR, hw⟩, by simp only [Rl.dp]; omega⟩)
theorem fitting_ok {d : List (List D) × D} (h : Dk d) : Sat (m__law_fitting d) (fun r => Zn r.1 ∧ Dk r.2) := by
  unfold m__law_fitting
  refine sat_rb (draw_ok (n := 7) h (by decide) (by decide)) fun r1 ⟨⟨ni, ei, hi⟩, dk⟩ => sat_rb (draw_ok (n := 10) dk (by decide) (by decide)) fun r2 ⟨⟨ng, eg, hg⟩, dk⟩ => ?_
  rw [ei, eg]
  refine sat_ob (sx_add _ _) ?_
  rw [show (((ni : Nat) : Int) + ((ng : Nat) : Int)) = ((ni + ng : Nat) : Int) by omega]
  refine sat_ob (rng_n (by omega)) (sat_rb (sat_fmSn (I := fun i z acc => Dk z ∧ acc.length = i ∧ ∀ x ∈ acc, ∃ w : List Nat, x = .str w ∧ w.length ≤ 1000) (rngL (ni + ng)) r2.2 [] 0 ⟨dk, rfl, fun x hx => by cases hx⟩ fun i z x acc hx ⟨dk, la, ha⟩ => ?_) fun p5 ⟨dk, lp, hp⟩ => ?_)
  · obtain ⟨hi', rfl⟩ := rngL_get hx
    refine sat_ob (abc_get (by omega)) (sat_rb (draw_ok (n := 8) dk (by decide) (by decide)) fun r12 ⟨⟨j, ej, hj⟩, dk⟩ => ?_)
    rw [ej]
    refine sat_ob (fdiv_i (by decide)) ?_
    obtain ⟨m, em, hm⟩ : ∃ m : Nat, ixD (.lst [(.int 1), (.int 8), (.int 9), (.int 2)]) (.int (((j : Nat) : Int) / 3)) = some (.int (m : Nat)) ∧ m ≤ 9 := by
      have : j / 3 < 4 := by omega
      rw [show ((j : Nat) : Int) / 3 = ((j / 3 : Nat) : Int) by omega]
      generalize j / 3 = q at this
      match q, this with
      | 0, _ => exact ⟨1, ix_l (i := 0) rfl, by omega⟩
      | 1, _ => exact ⟨8, ix_l (i := 1) rfl, by omega⟩
      | 2, _ => exact ⟨9, ix_l (i := 2) rfl, by omega⟩
      | 3, _ => exact ⟨2, ix_l (i := 3) rfl, by omega⟩
    refine sat_ob em (sat_ob (c := .str (List.replicate m [97 + i]).flatten) ?_ (sat_ok ⟨dk, ?_, fun x hx => ?_⟩))
    · show (if 0 ≤ ((m : Nat) : Int) ∧ ((m : Nat) : Int) ≤ 1000000 ∧ [97 + i].length * ((m : Nat) : Int).toNat ≤ 16777216 then some (D.str (List.replicate ((m : Nat) : Int).toNat [97 + i]).flatten) else none) = _
      rw [if_pos ⟨by omega, by omega, by simp; omega⟩]; rfl
    · show (acc ++ [_]).length = _
      simp; omega
    · rcases List.mem_append.mp (show x ∈ acc ++ [_] from hx) with hx | hx
      · exact ha x hx
      · rw [List.mem_singleton.mp hx]
        exact ⟨_, rfl, by rw [List.length_flatten]; simp; omega⟩
  · rw [List.nil_append] at lp hp
    rw [rngL_len, Nat.zero_add] at lp
    refine sat_ob (sx_asI _) (sat_ob (slL_from (by omega)) (sat_ob (sx_asL _) ?_))
    refine sat_rb (sat_forN (I := fun i (z : (List (List D) × D) × List D) => Dk z.1 ∧ z.2.length = i ∧ ∀ g ∈ z.2, Ge g) (p5.1.drop ni) (p5.2, []) 0 ⟨dk, rfl, al0⟩ fun i z x hx ⟨dk, zl, zg⟩ => ?_) fun z ⟨dk, zl, zg⟩ => ?_
    · have hi' := (List.getElem?_eq_some_iff.mp hx).1
      rw [List.length_drop] at hi'
      obtain ⟨w, rfl, hw⟩ := hp x (List.mem_of_mem_drop (List.mem_of_getElem? hx))
      refine sat_ob len_l (sat_rb (draw_ok (n := p5.1.length) dk (by omega) (by omega)) fun r19 ⟨⟨j, ej, hj⟩, dk⟩ => ?_)
      rw [ej]
      obtain ⟨y, ey, hy⟩ := at_mem hj
      obtain ⟨rd, rfl, hrd⟩ := hp y hy
      refine sat_ob ey (sat_rb (draw_ok (n := 11) dk (by decide) (by decide)) fun r25 ⟨⟨q, eq, hq⟩, dk⟩ => ?_)
      rw [eq]
      refine sat_ob (fdiv_i (by decide)) ?_
      obtain ⟨m, em, hm⟩ : ∃ m : Nat, ixD (.lst [(.int 1), (.int 2), (.int 9), (.int 10), (.int 11), (.int 12)]) (.int (((q : Nat) : Int) / 2)) = some (.int ((m + 1 : Nat) : Int)) ∧ m ≤ 11 := by
        have : q / 2 < 6 := by omega
        rw [show ((q : Nat) : Int) / 2 = ((q / 2 : Nat) : Int) by omega]
        generalize q / 2 = q at this
        match q, this with
        | 0, _ => exact ⟨0, ix_l (i := 0) rfl, by omega⟩
        | 1, _ => exact ⟨1, ix_l (i := 1) rfl, by omega⟩
        | 2, _ => exact ⟨8, ix_l (i := 2) rfl, by omega⟩
        | 3, _ => exact ⟨9, ix_l (i := 3) rfl, by omega⟩
        | 4, _ => exact ⟨10, ix_l (i := 4) rfl, by omega⟩
        | 5, _ => exact ⟨11, ix_l (i := 5) rfl, by omega⟩
      refine sat_ob em (sat_rb (deeprule_ok hrd m (by omega)) fun r22 ⟨R, eR, sR, dR⟩ => ?_)
      rw [eR]
      refine sat_ob (ap_l (by omega)) (sat_ok ⟨dk, by simp; omega, fun g hg => ?_⟩)
      rcases List.mem_append.mp hg with hg | hg
      · exact zg g hg
      · rw [List.mem_singleton.mp hg]
        exact gd_ge (g := (w, R)) hw sR (by show R.dp ≤ 15; omega)
    · rw [List.length_drop] at zl
      refine sat_ob (sx_asI _) (sat_ob (slL_to (by omega)) (sat_ok ⟨?_, dk⟩))
      refine zn_net (by simp; omega) (by omega) (fun d hd => ?_) zg
      obtain ⟨w, rfl, hw⟩ := hp d (List.mem_of_mem_take hd)
      exact .str hw
end W

namespace W
open PySem VL SSN PyProof.Rows
/-! a net changed -/
def Gz (a b : Nat) (l : List D) : Prop := a ≤ l.length ∧ l.length ≤ b ∧ ∀ g ∈ l, Ge g
def Iz (l : List D) : Prop := l.length ≤ 6 ∧ ∀ d ∈ l, Zt true 4 d
theorem Gz.set {n : Nat} {l : List D} (h : Gz n n l) (i : Nat) {g : D} (k : Ge g) : Gz n n (l.set i g) := ⟨by rw [List.length_set]; exact h.1, by rw [List.length_set]; exact h.2.1, fun y hy => by
  rcases List.mem_or_eq_of_mem_set hy with e | e
  · exact h.2.2 y e
  · rw [e]; exact k⟩
theorem mem_ins {l : List D} {i : Nat} {g y : D} (h : y ∈ l.take i ++ [g] ++ l.drop i) : y ∈ l ∨ y = g := by
  rcases List.mem_append.mp h with h | h
  · rcases List.mem_append.mp h with h | h
    · exact .inl (List.mem_of_mem_take h)
    · exact .inr (List.mem_singleton.mp h)
  · exact .inl (List.mem_of_mem_drop h)
theorem len_ins {l : List D} {i : Nat} {g : D} (h : i ≤ l.length) : (l.take i ++ [g] ++ l.drop i).length = l.length + 1 := by simp; omega
theorem insL_ok {l : List D} {i : Nat} (g : D) (h : i ≤ l.length) (hl : l.length ≤ 1000) : insL l (.int (i : Nat)) g = some (l.take i ++ [g] ++ l.drop i) := by
  show (if _ then _ else none) = _
  rw [if_pos ⟨by omega, by omega, by omega⟩, Int.toNat_natCast]
theorem popAt_1 {l : List D} {i : Nat} (h : i < l.length) : ∃ d, popAtL l (.int (i : Nat)) = some (d, l.eraseIdx i) := by
  have e : L2.ixN l.length (i : Int) = some i := by simp [L2.ixN]; omega
  exact ⟨l[i], by simp only [popAtL, e, List.getElem?_eq_getElem h]⟩
theorem dn_iz {N : Nt} (ok : N.Ok) : Iz (dn N.ins) := ⟨by rw [dn_len]; have := ok.i; omega, fun d hd => by
  obtain ⟨w, hw, rfl⟩ := List.mem_map.mp hd
  have := (ok.w w (List.mem_append_left _ hw)).l1
  exact .str (by omega)⟩
theorem join_ws {l : List (List Nat)} (h : ∀ w ∈ l, w.length ≤ 8) (hl : l.length ≤ 20) : joinD (.str qx_) (.lst (dn l)) = some (.str l.flatten) ∧ l.flatten.length ≤ 1000 := by
  have hs : (l.map List.length).sum ≤ 8 * l.length := by
    clear hl
    induction l with
    | nil => simp
    | cons x r ih =>
      have h1 := h x List.mem_cons_self
      have h2 := ih fun y hy => h y (List.mem_cons_of_mem _ hy)
      simp only [List.map_cons, List.sum_cons, List.length_cons]; omega
  exact ⟨join_map (by omega), by rw [List.length_flatten]; omega⟩
theorem whole_zn {ins gs : List D} (hi : Iz ins) {a b : Nat} (hg : Gz a b gs) (hb : b ≤ 100) : Zn (.tup [.lst ins, .lst gs]) := zn_net (by have := hi.1; omega) (by have := hg.2.1; omega) (fun d hd => (hi.2 d hd).weak.mono (by omega)) hg.2.2
theorem way8_ok {ins gs : List D} (hi : Iz ins) {n : Nat} (hg : Gz 0 n gs) (hb : n ≤ 100) {j1 j2 : List Nat} (k1 : j1.length ≤ 1000) (k2 : j2.length ≤ 1000) {x : D}
    (hx : x ∈ [(.lst [(.lst ins), (.lst gs)]), (.tup [(.lst ins)]), (.tup [(.lst ins), (.lst gs), (.int 0)]), (.tup [.tup ins, (.lst gs)])] ++ [(.tup [(.lst ins), .tup gs]), (.tup [(.lst gs), (.lst ins)]), (.tup [.non, (.lst gs)]), (.tup [(.lst ins), .non])] ++ [(.tup [.str j1, (.lst gs)]), (.tup [(.dct false []), (.lst gs)]), (.tup [(.lst ins), (.dct false [])]), (.tup [(.lst ins), .str j2])]) : Zn x := by
  have i6 := hi.1
  have gn := hg.2.1
  have zi : Zt false 17 (.lst ins) := .lst (by omega) fun d hd => (hi.2 d hd).weak.mono (by omega)
  have zg : Zt false 17 (.lst gs) := .lst (by omega) fun d hd => (hg.2.2 d hd).1
  have ti : Zt false 17 (.tup ins) := .tup (by omega) (fun d hd => (hi.2 d hd).weak.mono (by omega)) fun h => by cases h
  have tg : Zt false 17 (.tup gs) := .tup (by omega) (fun d hd => (hg.2.2 d hd).1) fun h => by cases h
  have two : ∀ {a b : D}, Zt false 17 a → Zt false 17 b → (∀ i g, D.tup [a, b] ≠ .tup [.lst i, .lst g]) → Zn (.tup [a, b]) := fun h k e => ⟨(Zt.tup (n := 17) (by simp) (alc h (alc k al0)) fun h => by cases h).mono (by omega), fun i g e2 => absurd e2 (e i g)⟩
  simp only [List.cons_append, List.nil_append, List.mem_cons, List.not_mem_nil, or_false] at hx
  rcases hx with h | h | h | h | h | h | h | h | h | h | h | h <;> subst h
  · exact ⟨(Zt.lst (n := 17) (by simp) (alc zi (alc zg al0))).mono (by omega), fun i g e => by cases e⟩
  · exact ⟨(Zt.tup (n := 17) (by simp) (alc zi al0) fun h => by cases h).mono (by omega), fun i g e => by cases e⟩
  · exact ⟨(Zt.tup (n := 17) (by simp) (alc zi (alc zg (alc (.int _) al0))) fun h => by cases h).mono (by omega), fun i g e => by cases e⟩
  · exact two ti zg fun i g e => by cases e
  · exact two zi tg fun i g e => by cases e
  · exact zn_net (by omega) (by omega) (fun d hd => (hg.2.2 d hd).1) fun g hh => ge_of (hi.2 g hh) (by omega)
  · exact two .non zg fun i g e => by cases e
  · exact two zi .non fun i g e => by cases e
  · exact two (.str k1) zg fun i g e => by cases e
  · exact two .dct zg fun i g e => by cases e
  · exact two zi .dct fun i g e => by cases e
  · exact two zi (.str k2) fun i g e => by cases e
theorem changed_ok {d : List (List D) × D} (h : Dk d) {N : Nt} (ok : N.Ok) : Sat (m__law_changed d N.d) (fun r => Zn r.1 ∧ Dk r.2) := by
  have i4 := ok.i
  have g7 := ok.g1
  have g0 := ok.g0
  have wl := N.ws_len
  have gz0 : Gz N.gs.length N.gs.length (N.gs.map gD) := ⟨by rw [List.length_map]; omega, by rw [List.length_map]; omega, fun g hg => by
    obtain ⟨p, hp, rfl⟩ := List.mem_map.mp hg
    have := (ok.w p.1 (List.mem_append_right _ (List.mem_map.mpr ⟨p, hp, rfl⟩))).l1
    have h2 := ok.r p hp
    exact gd_ge (by omega) (Rl.sm_of ok.w _ h2.2) (by omega)⟩
  have iz0 := dn_iz ok
  unfold m__law_changed
  refine sat_rbe (copy_ok N) (sat_ob (c := [.lst (dn N.ins), .lst (N.gs.map gD)]) rfl ?_)
  have l0 : lstOf (([.lst (dn N.ins), .lst (N.gs.map gD)] : List D).getD 0 .non) = dn N.ins := rfl
  have l1 : lstOf (([.lst (dn N.ins), .lst (N.gs.map gD)] : List D).getD 1 .non) = N.gs.map gD := rfl
  rw [l0, l1]
  refine sat_rb (draw_ok (n := 12) h (by decide) (by decide)) fun r3 ⟨⟨way, ew, hw⟩, dk⟩ => ?_
  rw [ew]
  have eqw : ∀ {m : Nat}, (((way : Nat) : Int) == ((m : Nat) : Int)) = true → way = m := fun {m} h => by
    have := beq_iff_eq.mp h
    omega
  refine sat_ob (sx_gt _ _) (sat_if (fun _ => sat_rb (named_ok dk ok) fun r q => sat_ok q) fun _ => ?_)
  refine sat_ob len_l ?_
  rw [List.length_map]
  refine sat_rb (draw_ok dk (n := N.gs.length) (by omega) (by omega)) fun r6 ⟨⟨at_, ea, hat⟩, dk⟩ => ?_
  rw [ea]
  refine sat_ob (ix_l (i := at_) (d := gD N.gs[at_]) (by rw [List.getElem?_map, List.getElem?_eq_getElem hat]; rfl)) (sat_ob (c := (.str N.gs[at_].1, N.gs[at_].2.d)) rfl ?_)
  have hm : N.gs[at_] ∈ N.gs := List.getElem_mem hat
  have nm8 := (ok.w _ (List.mem_append_right _ (List.mem_map.mpr ⟨_, hm, rfl⟩))).l1
  have hr := ok.r _ hm
  have sm := Rl.sm_of ok.w _ hr.2
  generalize N.gs[at_] = g at nm8 hr sm hm
  have zr := (Rl.zt _ sm).mono (show g.2.dp ≤ 12 by omega)
  refine sat_ob (sx_asL _) (sat_rbe (gates_names N) (sat_ob (cat_dn (by show N.ins.length + (N.gs.map (·.1)).length ≤ 1000; rw [List.length_map]; omega)) ?_))
  rw [show dn (N.ins ++ N.gn) = dn N.ws from rfl]
  -- a rule bent
  refine sat_rb (P := fun z => Gz N.gs.length N.gs.length z.1 ∧ Dk z.2) (sat_ob (sx_eqi _ _) (sat_if (fun _ => sat_rb (bent_ok 24 g.2 r6.2 sm (by omega) dk) fun r21 ⟨z21, dk⟩ => sat_ob (set_l (by rw [List.length_map]; exact hat)) (sat_ok ⟨gz0.set _ (ge_two (n := 15) (.str (by omega)) (z21.mono (by omega)) (by omega)), dk⟩)) fun _ => sat_ok ⟨gz0, dk⟩)) fun z18 ⟨gz, dk⟩ => ?_
  -- a name
  refine sat_rb (P := fun z => Gz N.gs.length N.gs.length z.1 ∧ Dk z.2) (sat_ob (sx_eqi _ _) (sat_if (fun _ => sat_rb (odd_ok (n := 0) dk (.str (by omega)) rfl) fun r28 ⟨z28, dk⟩ => sat_ob (set_l (by have := gz.1; omega)) (sat_ok ⟨gz.set _ (ge_two (n := 15) (z28.weak.mono (by omega)) (zr.mono (by omega)) (by omega)), dk⟩)) fun _ => sat_ok ⟨gz, dk⟩)) fun z25 ⟨gz, dk⟩ => ?_
  -- a gate of another kind
  refine sat_rb (P := fun z => Gz N.gs.length N.gs.length z.1 ∧ Dk z.2) (sat_ob (sx_eqi _ _) (sat_if (fun _ => sat_rb (draw_ok (n := 6) dk (by decide) (by decide)) fun r37 ⟨⟨k, ek, hk⟩, dk⟩ => ?_) fun _ => sat_ok ⟨gz, dk⟩)) fun z33 ⟨gz, dk⟩ => ?_
  · rw [ek]
    have zn : Zt true 12 (.str g.1) := .str (by omega)
    have fin : ∀ {x : D}, Ge x → Sat (ob (setL z25.1 (.int ((at_ : Nat) : Int)) x) fun t35 => .ok (t35, r37.2)) (fun z => Gz N.gs.length N.gs.length z.1 ∧ Dk z.2) := fun gx => sat_ob (set_l (by have := gz.1; omega)) (sat_ok ⟨gz.set _ gx, dk⟩)
    match k, hk with
    | 0, _ => exact sat_ob (ix_l (i := 0) rfl) (fin (ge_of (n := 13) (.lst (by simp) (alc zn (alc zr al0))) (by omega)))
    | 1, _ => exact sat_ob (ix_l (i := 1) rfl) (fin (ge_of (n := 13) (.tup (by simp) (alc zn al0) fun _ => .inl rfl) (by omega)))
    | 2, _ => exact sat_ob (ix_l (i := 2) rfl) (fin (ge_of (n := 13) (.tup (by simp) (alc zn (alc zr (alc (.int _) al0))) fun _ => .inl rfl) (by omega)))
    | 3, _ => exact sat_ob (ix_l (i := 3) rfl) (fin (ge_of (n := 13) .non (by omega)))
    | 4, _ => exact sat_ob (ix_l (i := 4) rfl) (fin (ge_of (n := 13) (.tup (by simp) (alc zr (alc zn al0)) fun _ => .inl (Rl.plain _)) (by omega)))
    | 5, _ => exact sat_ob (ix_l (i := 5) rfl) (fin (ge_of (n := 13) (zn.mono (by omega)) (by omega)))
  -- a name more
  refine sat_rb (P := fun z => z.1.length ≤ 5 ∧ Iz z.1 ∧ (way ≠ 3 → z.1 = dn N.ins) ∧ Dk z.2) (sat_ob (sx_eqi _ _) (sat_if (fun hw3 => ?_) fun _ => sat_ok ⟨by show (dn N.ins).length ≤ 5; rw [dn_len]; omega, iz0, fun _ => rfl, dk⟩)) fun z48 ⟨l48, iz, e48, dk⟩ => ?_
  · refine sat_ob len_l ?_
    rw [dn_len]
    refine sat_rb (draw_ok dk (n := N.ws.length) (by omega) (by omega)) fun r52 ⟨⟨i, ei, hi⟩, dk⟩ => ?_
    rw [ei]
    refine sat_ob (ix_l (dn_get (List.getElem?_eq_getElem hi))) (sat_rb (draw_ok (n := 2) dk (by decide) (by decide)) fun r54 ⟨⟨k, ek, hk⟩, dk⟩ => ?_)
    have w8 := (ok.w _ (List.getElem_mem hi)).l1
    rw [ek]
    obtain ⟨x, ex, zx⟩ : ∃ x, ixD (.lst [.str N.ws[i], .str q_new]) (.int (k : Nat)) = some x ∧ Zt true 4 x := by
      match k, hk with
      | 0, _ => exact ⟨_, ix_l (i := 0) rfl, .str (by omega)⟩
      | 1, _ => exact ⟨_, ix_l (i := 1) rfl, .str (by decide)⟩
    refine sat_ob ex (sat_ob len_l (sat_ob (sx_add _ _) ?_))
    rw [dn_len, show (((N.ins.length : Nat) : Int) + 1) = ((N.ins.length + 1 : Nat) : Int) by omega]
    refine sat_rb (draw_ok dk (n := N.ins.length + 1) (by omega) (by omega)) fun r56 ⟨⟨j, ej, hj⟩, dk⟩ => ?_
    rw [ej]
    have lj : j ≤ (dn N.ins).length := by rw [dn_len]; omega
    refine sat_ob (insL_ok x lj (by rw [dn_len]; omega)) (sat_ok ⟨?_, ⟨?_, fun y hy => ?_⟩, fun h => absurd (eqw (m := 3) hw3) h, dk⟩)
    · rw [len_ins lj, dn_len]; omega
    · rw [len_ins lj, dn_len]; omega
    · rcases mem_ins hy with e | e
      · exact iz0.2 y e
      · rw [e]; exact zx
  -- an odd one more
  refine sat_rb (P := fun z => Iz z.1 ∧ (way ≠ 3 ∧ way ≠ 4 → z.1 = dn N.ins) ∧ Dk z.2) (sat_ob (sx_eqi _ _) (sat_if (fun hw4 => ?_) fun _ => sat_ok ⟨iz, fun h => e48 h.1, dk⟩)) fun z65 ⟨iz, e65, dk⟩ => ?_
  · refine sat_ob len_l (sat_ob (sx_add _ _) ?_)
    rw [show (((z48.1.length : Nat) : Int) + 1) = ((z48.1.length + 1 : Nat) : Int) by omega]
    refine sat_rb (draw_ok dk (n := z48.1.length + 1) (by omega) (by omega)) fun r68 ⟨⟨j, ej, hj⟩, dk⟩ => ?_
    rw [ej]
    refine sat_rb (odd_ok (n := 0) dk (.str (by decide)) rfl) fun r71 ⟨z71, dk⟩ => ?_
    have lj : j ≤ z48.1.length := by omega
    refine sat_ob (insL_ok r71.1 lj (by omega)) (sat_ok ⟨⟨?_, fun y hy => ?_⟩, fun h => absurd (eqw (m := 4) hw4) h.2, dk⟩)
    · rw [len_ins lj]; omega
    · rcases mem_ins hy with e | e
      · exact iz.2 y e
      · rw [e]; exact z71.mono (by omega)
  -- a gate more
  refine sat_rb (P := fun z => Gz N.gs.length (N.gs.length + 1) z.1 ∧ Dk z.2) (sat_ob (sx_eqi _ _) (sat_if (fun _ => ?_) fun _ => sat_ok ⟨⟨gz.1, Nat.le_succ_of_le gz.2.1, gz.2.2⟩, dk⟩)) fun z82 ⟨gz, dk⟩ => ?_
  · have a1 := gz.1
    have a2 := gz.2.1
    refine sat_ob len_l (sat_rb (draw_ok dk (n := z33.1.length) (by omega) (by omega)) fun r86 ⟨⟨i, ei, hi⟩, dk⟩ => ?_)
    rw [ei]
    obtain ⟨y, ey, hy⟩ := at_mem hi
    refine sat_ob ey (sat_rb (draw_ok (n := 2) dk (by decide) (by decide)) fun r88 ⟨⟨k, ek, hk⟩, dk⟩ => ?_)
    rw [ek]
    obtain ⟨x, ex, zx⟩ : ∃ x, ixD (.lst [y, .tup [.str q_more, g.2.d]]) (.int (k : Nat)) = some x ∧ Ge x := by
      match k, hk with
      | 0, _ => exact ⟨_, ix_l (i := 0) rfl, gz.2.2 y hy⟩
      | 1, _ => exact ⟨_, ix_l (i := 1) rfl, ge_two (n := 15) (.str (by decide)) (zr.mono (by omega)) (by omega)⟩
    refine sat_ob ex (sat_ob len_l (sat_ob (sx_add _ _) ?_))
    rw [show (((z33.1.length : Nat) : Int) + 1) = ((z33.1.length + 1 : Nat) : Int) by omega]
    refine sat_rb (draw_ok dk (n := z33.1.length + 1) (by omega) (by omega)) fun r90 ⟨⟨j, ej, hj⟩, dk⟩ => ?_
    rw [ej]
    have lj : j ≤ z33.1.length := by omega
    refine sat_ob (insL_ok x lj (by omega)) (sat_ok ⟨⟨?_, ?_, fun q hq => ?_⟩, dk⟩)
    · rw [len_ins lj]; omega
    · rw [len_ins lj]; omega
    · rcases mem_ins hq with e | e
      · exact gz.2.2 q e
      · rw [e]; exact zx
  -- a gate less
  refine sat_rb (P := fun z => Gz 0 (N.gs.length + 1) z) (sat_ob (sx_eqi _ _) (sat_if (fun _ => ?_) fun _ => sat_ok ⟨Nat.zero_le _, gz.2⟩)) fun z95 gz => ?_
  · obtain ⟨x, ex⟩ := popAt_1 (l := z82.1) (i := at_) (by have := gz.1; omega)
    refine sat_ob ex (sat_ok ⟨Nat.zero_le _, ?_, fun q hq => gz.2.2 q (List.mem_of_mem_eraseIdx hq)⟩)
    have := List.length_eraseIdx_le z82.1 at_
    have := gz.2.1
    show (z82.1.eraseIdx at_).length ≤ _
    omega
  -- a name less
  refine sat_rb (P := fun z => Iz z.1 ∧ (way = 8 → z.1 = dn N.ins) ∧ Dk z.2) (sat_ob (sx_eqi _ _) (sat_rb (P := fun p => p.1 = true → way = 7 ∧ 0 < z65.1.length) (sat_if (fun hw7 => ?_) fun _ => sat_ok fun h => by cases h) fun p hp => sat_if (fun h => ?_) fun _ => sat_ok ⟨iz, fun h => e65 ⟨by omega, by omega⟩, dk⟩)) fun z104 ⟨iz, e104, dk⟩ => ?_
  · have w7 := eqw (m := 7) hw7
    have e := e65 ⟨by omega, by omega⟩
    rw [e]
    refine sat_ob (ne_nil (dn_plain _) (by rw [dn_dep]; omega)) (sat_ok fun h => ⟨w7, ?_⟩)
    cases hh : dn N.ins with
    | nil => rw [hh] at h; cases h
    | cons _ _ => simp
  · obtain ⟨w7, hpos⟩ := hp h
    have i6 := iz.1
    refine sat_ob len_l (sat_rb (draw_ok dk (n := z65.1.length) hpos (by omega)) fun r109 ⟨⟨j, ej, hj⟩, dk⟩ => ?_)
    rw [ej]
    obtain ⟨x, ex⟩ := popAt_1 hj
    refine sat_ob ex (sat_ok ⟨⟨?_, fun q hq => iz.2 q (List.mem_of_mem_eraseIdx hq)⟩, fun h => by omega, dk⟩)
    have := List.length_eraseIdx_le z65.1 j
    show (z65.1.eraseIdx j).length ≤ _
    omega
  have a1 := gz.2.1
  refine sat_ob (sx_eqi _ _) (sat_if (fun hw8 => ?_) fun _ => sat_ok ⟨whole_zn iz gz (by omega), dk⟩)
  have e := e104 (eqw (m := 8) hw8)
  have jn := join_ws (l := N.ins) (fun w hw => (ok.w w (List.mem_append_left _ hw)).l1) (by omega)
  refine sat_ob (c := .tup z104.1) rfl (sat_ob (c := .tup z95) rfl (sat_ob (VL.cat_l (by simp)) (sat_ob (sx_asS _) (sat_ob (c := .str N.ins.flatten) (by rw [e]; exact jn.1) (sat_ob (sx_asS _) (sat_ob (c := .str N.ins.flatten) (by rw [e]; exact jn.1) (sat_ob (VL.cat_l (by simp)) (sat_rb (draw_ok (n := 12) dk (by decide) (by decide)) fun r121 ⟨⟨k, ek, hk⟩, dk⟩ => ?_))))))))
  rw [ek]
  obtain ⟨x, ex, hx⟩ := at_mem (l := [(.lst [(.lst z104.1), (.lst z95)]), (.tup [(.lst z104.1)]), (.tup [(.lst z104.1), (.lst z95), (.int 0)]), (.tup [.tup z104.1, (.lst z95)])] ++ [(.tup [(.lst z104.1), .tup z95]), (.tup [(.lst z95), (.lst z104.1)]), (.tup [.non, (.lst z95)]), (.tup [(.lst z104.1), .non])] ++ [(.tup [.str N.ins.flatten, (.lst z95)]), (.tup [(.dct false []), (.lst z95)]), (.tup [(.lst z104.1), (.dct false [])]), (.tup [(.lst z104.1), .str N.ins.flatten])]) (k := k) (by simp; omega)
  exact sat_ob ex (sat_ok ⟨way8_ok iz gz (by omega) jn.2 jn.2 hx, dk⟩)
end W

namespace W
open PySem VL SSN PyProof.Rows
theorem goodR_of {ns : List (List Nat)} : ∀ (R : Rl) (k : Nat), R.over ns → R.dp ≤ k → goodR ns k R.d = true
  | R, 0, _, h => by cases R <;> simp [Rl.dp] at h
  | .wire n, k + 1, o, h => by
    simp only [Rl.d, goodR, if_true]
    exact decide_eq_true o
  | .neg r, k + 1, o, h => by
    simp only [Rl.dp] at h
    have e : q_not ≠ q_wire := by decide
    simp only [Rl.d, goodR, if_neg e, if_true]
    exact goodR_of r k o (by omega)
  | .conj a b, k + 1, o, h => by
    simp only [Rl.dp] at h
    have e : q_and ≠ q_wire := by decide
    have e2 : q_and ≠ q_not := by decide
    have e3 : q_and = q_and ∨ q_and = q_or := .inl rfl
    simp only [Rl.d, goodR, if_neg e, if_neg e2, if_pos e3]
    rw [goodR_of a k o.1 (by omega), goodR_of b k o.2 (by omega)]; rfl
  | .disj a b, k + 1, o, h => by
    simp only [Rl.dp] at h
    have e : q_or ≠ q_wire := by decide
    have e2 : q_or ≠ q_not := by decide
    have e3 : q_or = q_and ∨ q_or = q_or := .inr rfl
    simp only [Rl.d, goodR, if_neg e, if_neg e2, if_pos e3]
    rw [goodR_of a k o.1 (by omega), goodR_of b k o.2 (by omega)]; rfl
theorem net_good {N : Nt} (ok : N.Ok) : netB N.d = true := by
  have ew : wsOf (dn N.ins) (N.gs.map gD) = N.ws := by
    unfold wsOf
    rw [gn_map, ← dn_app]
    unfold dn
    rw [List.map_map]
    exact List.map_id' _
  show ((decide ((dn N.ins).length ≤ 4) && (decide (1 ≤ (N.gs.map gD).length) && decide ((N.gs.map gD).length ≤ 7))) && (((dn N.ins).all goodN && (N.gs.map gD).all goodG) && (decide (wsOf (dn N.ins) (N.gs.map gD)).Nodup && (N.gs.map gD).all fun g => goodR (wsOf (dn N.ins) (N.gs.map gD)) 10 (sndD g)))) = true
  rw [ew, dn_len, List.length_map]
  simp only [Bool.and_eq_true, decide_eq_true_eq, List.all_eq_true]
  refine ⟨⟨ok.i, ok.g0, ok.g1⟩, ⟨fun d hd => ?_, fun d hd => ?_⟩, ok.nd, fun d hd => ?_⟩
  · obtain ⟨w, hw, rfl⟩ := List.mem_map.mp hd
    exact word_goodN (ok.w w (List.mem_append_left _ hw))
  · obtain ⟨p, hp, rfl⟩ := List.mem_map.mp hd
    exact word_goodN (ok.w p.1 (List.mem_append_right _ (List.mem_map.mpr ⟨p, hp, rfl⟩)))
  · obtain ⟨p, hp, rfl⟩ := List.mem_map.mp hd
    have h2 := ok.r p hp
    exact goodR_of p.2 10 h2.2 h2.1
theorem right_sat {d : D} (h : Zn d) {β : Type} {k : D → Res β} {Q : β → Prop} (hk : Sat (k (.bl true)) Q) : Sat (rb (m__law_right d) k) Q := sat_rbe (right_ok h) hk
theorem law_true (ns : List Int) (hl : ns.length ≤ 63) : m_law (.lst (ns.map .int)) = .ok (.bl true) := by
  refine of_sat ?_
  unfold m_law
  refine sat_rb (deck_ok ns hl) fun r1 dk => sat_ob (rng_n (n := 4) (by decide)) (sat_rb (sat_forL0 (I := Dk) dk fun z3 d2 _ dk => ?_) fun o ⟨z, eo, dk⟩ => ?_)
  · refine sat_rb (net_ok dk) fun r5 ⟨N, eN, ok, dk⟩ => ?_
    rw [eN]
    have zn := net_zn ok
    refine sat_rbe (pnet_ok zn) ?_
    rw [net_good ok]
    refine sat_ob (c := false) rfl (sat_rb (P := fun p => p.1 = false) (sat_if (fun h => by cases h) fun _ => right_sat zn (sat_ob (sx_asB _) (sat_ok rfl))) fun p6 h6 => sat_if (fun h => by rw [h6] at h; cases h) fun _ => ?_)
    refine sat_rb (fitting_ok dk) fun r14 ⟨z14, dk⟩ => right_sat z14 (sat_ob (sx_asB _) (sat_rb (P := fun p => p.1 = false ∧ Dk p.2) (sat_if (fun h => by cases h) fun _ => sat_rb (fitting_ok dk) fun r17 ⟨z17, dk⟩ => right_sat z17 (sat_ob (sx_asB _) (sat_ok ⟨rfl, dk⟩))) fun p11 ⟨h11, dk⟩ => sat_if (fun h => by rw [h11] at h; cases h) fun _ => ?_))
    refine sat_ob (rng_n (n := 10) (by decide)) (sat_rb (sat_forL0 (I := Dk) dk fun z19 d18 _ dk => ?_) fun o ⟨z, eo, dk⟩ => ?_)
    · exact sat_rb (changed_ok dk ok) fun r23 ⟨z23, dk⟩ => right_sat z23 (sat_ob (sx_asB _) (sat_if (fun h => by cases h) fun _ => sat_ok ⟨_, rfl, dk⟩))
    · subst eo
      exact sat_ok ⟨_, rfl, dk⟩
  · subst eo
    rw [sx_on1]
    refine sat_ob (sx_asL _) (sat_rb (P := fun (ys : List D) => ys.length ≤ 2 ∧ ∀ y ∈ ys, Zn y) ?_ fun ys ⟨yl, yz⟩ => ?_)
    · refine Sat.mono (sat_fmR (P := fun _ y => Zn y) _ fun d hd => ?_) fun ys h => ⟨by simpa using h.1, fun y hy => (h.2 y hy).elim fun _ h => h.2⟩
      have key : ∀ k : Nat, k ≤ 12 → d = .int ((k + 1 : Nat) : Int) → Sat (rb (m__law_deep_rule (.str q_a) d) fun r28 => .ok (some (.tup [(.lst []), (.lst [(.tup [(.str q_a), r28])])]))) (fun o => ∀ y, o = some y → Zn y) := fun k hk e => by
        rw [e]
        refine sat_rb (deeprule_ok (by decide) k hk) fun r ⟨R, eR, sR, dR⟩ => sat_ok fun y ey => ?_
        cases ey
        rw [eR]
        exact zn_net (by simp) (by simp) al0 (alc (gd_ge (g := (q_a, R)) (show q_a.length ≤ 1000 by decide) sR (by show R.dp ≤ 15; omega)) al0)
      simp only [List.mem_cons, List.not_mem_nil, or_false] at hd
      rcases hd with h | h
      · exact key 9 (by decide) h
      · exact key 10 (by decide) h
    refine sat_ob (VL.cat_l (by simp; omega)) (sat_ob (VL.cat_l (by simp; omega)) (sat_ob (sx_asL _) (sat_rb (sat_forL0 (I := fun _ => True) trivial fun z d hd _ => ?_) fun o ⟨z, eo, _⟩ => ?_)))
    · have leaf : ∀ {d : D}, Zt false 16 d → (∀ i g, d ≠ .tup [.lst i, .lst g]) → Zn d := fun h e => ⟨h.mono (by omega), fun i g e2 => absurd e2 (e i g)⟩
      have wr : Zt true 15 (.tup [.str q_wire, .str q_a]) := .tup (by simp) (alc (.str (by decide)) (alc (.str (by decide)) al0)) fun _ => .inl rfl
      have em : Zt true 15 (.tup []) := .tup (by simp) al0 fun _ => trivial
      have z : Zn d := by
        rcases List.mem_append.mp hd with hd | hd
        · rcases List.mem_append.mp hd with hd | hd
          · simp only [List.mem_cons, List.not_mem_nil, or_false] at hd
            rcases hd with h | h | h | h | h | h | h | h <;> subst h
            · exact leaf .non fun i g e => by cases e
            · exact leaf (.int _) fun i g e => by cases e
            · exact leaf (.str (by decide)) fun i g e => by cases e
            · exact leaf (em.weak.mono (by omega)) fun i g e => by cases e
            · exact leaf (.lst (by simp) al0) fun i g e => by cases e
            · exact leaf .dct fun i g e => by cases e
            · exact zn_net (by simp) (by simp) al0 al0
            · exact zn_net (by simp) (by simp) al0 (alc (ge_two (n := 15) (.str (by decide)) wr (by omega)) al0)
          · exact yz d hd
        · simp only [List.mem_cons, List.not_mem_nil, or_false] at hd
          rcases hd with h | h | h <;> subst h
          · exact zn_net (by simp) (by simp) al0 (alc (ge_two (n := 15) (.str (by decide)) em (by omega)) al0)
          · exact zn_net (by simp) (by simp) (alc (.str (by decide)) al0) al0
          · exact leaf (.bl _) fun i g e => by cases e
      exact right_sat z (sat_ob (sx_asB _) (sat_if (fun h => by cases h) fun _ => sat_ok ⟨_, rfl, trivial⟩))
    · subst eo
      exact sat_ok rfl
end W

open PySem PySem.W PyProof.Rows
set_option maxHeartbeats 0 in
theorem PySem.Challenge.cw_anydelay_k01_what_is_a_net_holds : PySem.Challenge.rw_anydelay_k01_what_is_a_net.Holds := by
  w_on; o_law; k_head; (case hw => w_witness2)
  k_fill
  refine VL.walk_ofE (l := PySem.Challenge.rw_anydelay_k01_what_is_a_net) (k := 29) (mir := fun a => W.m_law a) rfl rfl ⟨rfl, by decide, by decide⟩ (fun w h Y => PySem.W.kIn_of Y) ?F (fun w => by rfl) W.law_true
  case F =>
    intro w mg fa h KX G hmg
    refine' W.all_mk KX G hmg ?a0 ?l0 ?c0 ?k0 ?a1 ?l1 ?c1 ?k1 ?a2 ?l2 ?c2 ?k2 ?a3 ?l3 ?c3 ?k3 ?a4 ?l4 ?c4 ?k4 ?a5 ?l5 ?c5 ?k5 ?a6 ?l6 ?c6 ?k6 ?a7 ?l7 ?c7 ?k7 ?a8 ?l8 ?c8 ?k8 ?a9 ?l9 ?c9 ?k9 ?a10 ?l10 ?c10 ?k10 ?a11 ?l11 ?c11 ?k11 ?a12 ?l12 ?c12 ?k12 ?a13 ?l13 ?c13 ?k13 ?a14 ?l14 ?c14 ?k14 ?a15 ?l15 ?c15 ?k15 ?a16 ?l16 ?c16 ?k16 ?a17 ?l17 ?c17 ?k17 ?a18 ?l18 ?c18 ?k18 ?a19 ?l19 ?c19 ?k19 ?a20 ?l20 ?c20 ?k20 ?a21 ?l21 ?c21 ?k21 ?a22 ?l22 ?c22 ?k22 ?a23 ?l23 ?c23 ?k23 ?a24 ?l24 ?c24 ?k24 ?a25 ?l25 ?c25 ?k25 ?z_bool ?z_int ?z_isinstance ?z_len ?z_list ?z_max ?z_min ?z_range ?z_set ?z_str ?z_tuple ?cg_SMALL_LETTERS ?cg_LONGEST_NAME ?cg_DEEPEST_RULE ?cg_MOST_GATES ?cg_MOST_INPUTS
    (case a0 => k_is)
    (case l0 => k_is)
    (case c0 => k_is)
    (case k0 => k_is)
    (case a1 => k_is)
    (case l1 => k_is)
    (case c1 => k_is)
    (case k1 => k_is)
    (case a2 => k_is)
    (case l2 => k_is)
    (case c2 => k_is)
    (case k2 => k_is)
    (case a3 => k_is)
    (case l3 => k_is)
    (case c3 => k_is)
    (case k3 => k_is)
    (case a4 => k_is)
    (case l4 => k_is)
    (case c4 => k_is)
    (case k4 => k_is)
    (case a5 => k_is)
    (case l5 => k_is)
    (case c5 => k_is)
    (case k5 => k_is)
    (case a6 => k_is)
    (case l6 => k_is)
    (case c6 => k_is)
    (case k6 => k_is)
    (case a7 => k_is)
    (case l7 => k_is)
    (case c7 => k_is)
    (case k7 => k_is)
    (case a8 => k_is)
    (case l8 => k_is)
    (case c8 => k_is)
    (case k8 => k_is)
    (case a9 => k_is)
    (case l9 => k_is)
    (case c9 => k_is)
    (case k9 => k_is)
    (case a10 => k_is)
    (case l10 => k_is)
    (case c10 => k_is)
    (case k10 => k_is)
    (case a11 => k_is)
    (case l11 => k_is)
    (case c11 => k_is)
    (case k11 => k_is)
    (case a12 => k_is)
    (case l12 => k_is)
    (case c12 => k_is)
    (case k12 => k_is)
    (case a13 => k_is)
    (case l13 => k_is)
    (case c13 => k_is)
    (case k13 => k_is)
    (case a14 => k_is)
    (case l14 => k_is)
    (case c14 => k_is)
    (case k14 => k_is)
    (case a15 => k_is)
    (case l15 => k_is)
    (case c15 => k_is)
    (case k15 => k_is)
    (case a16 => k_is)
    (case l16 => k_is)
    (case c16 => k_is)
    (case k16 => k_is)
    (case a17 => k_is)
    (case l17 => k_is)
    (case c17 => k_is)
    (case k17 => k_is)
    (case a18 => k_is)
    (case l18 => k_is)
    (case c18 => k_is)
    (case k18 => k_is)
    (case a19 => k_is)
    (case l19 => k_is)
    (case c19 => k_is)
    (case k19 => k_is)
    (case a20 => k_is)
    (case l20 => k_is)
    (case c20 => k_is)
    (case k20 => k_is)
    (case a21 => k_is)
    (case l21 => k_is)
    (case c21 => k_is)
    (case k21 => k_is)
    (case a22 => k_is)
    (case l22 => k_is)
    (case c22 => k_is)
    (case k22 => k_is)
    (case a23 => k_is)
    (case l23 => k_is)
    (case c23 => k_is)
    (case k23 => k_is)
    (case a24 => k_is)
    (case l24 => k_is)
    (case c24 => k_is)
    (case k24 => k_is)
    (case a25 => k_is)
    (case l25 => k_is)
    (case c25 => k_is)
    (case k25 => k_is)
    (case z_bool => k_is)
    (case z_int => k_is)
    (case z_isinstance => k_is)
    (case z_len => k_is)
    (case z_list => k_is)
    (case z_max => k_is)
    (case z_min => k_is)
    (case z_range => k_is)
    (case z_set => k_is)
    (case z_str => k_is)
    (case z_tuple => k_is)
    (case cg_SMALL_LETTERS => k_is)
    (case cg_LONGEST_NAME => k_is)
    (case cg_DEEPEST_RULE => k_is)
    (case cg_MOST_GATES => k_is)
    (case cg_MOST_INPUTS => k_is)

