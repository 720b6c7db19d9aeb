import PyProof.Rows.All
import KE.KDictZip
import PyProof.EnumMake
import PyProof.Draws
import HandS.Conv
import Wide.All
import OpenK.AllK
import Wide.FinOn
import HandS.ForMost
import HandS.ForExc
import HandS.Walk
import HandS.IsInst
import HandS.More
import HandS.ExcInit
import HandS.ExcField
import KE.KExcIs
import HandS.Style
import HandS.SetFor
import PyProof.SeqRoads2
import KE.SortData
import HandS.DictEq
import HandS.TupAny
import HandS.Iter
import KE.KDictSum
import HandS.DictTup
import HandS.ListItems
import HandS.StrMore
import KE.KEqDict
import KE.KDictWalk
import HandS.Text
import HandS.Zip
import HandS.ReplaceLit
import PyProof.Rows.StrStrike
import HandS.Strs
import PySem.Challenge.RW_anydelay_k28_sheets_told
set_option Elab.async false
set_option linter.all false
set_option maxRecDepth 100000
namespace VL
open PySem L2

/-! data, results -/
inductive D where
  | non | bl (b : Bool) | int (i : Int) | str (x : List Nat) | tup (l : List D) | lst (l : List D) | dct (k : Bool) (l : List (D × D)) | opq (v : V) | exc (k : Nat) (l : List D) | fd (o : Obj) (kvs : List (Key × V)) (l : List (D × D))
abbrev Lab := List Nat
inductive T where
  | f (x : D) | l (ds : List D) | ll (ts : List T) | tt (ts : List T) | dc (k : Bool) (kvs : List (D × D)) | dl (ks : List D) (ts : List T) | hole (w : V)
structure Ex where
  k : Nat
  a : Option D
inductive Res (α : Type) where
  | ok (a : α) | err (e : Ex) | fail
def rb {α β : Type} (m : Res α) (k : α → Res β) : Res β := match m with | .ok a => k a | .err e => .err e | .fail => .fail
def ob {α β : Type} (m : Option α) (k : α → Res β) : Res β := match m with | some a => k a | none => .fail
theorem rb_ok {α β : Type} (a : α) (k : α → Res β) : rb (.ok a) k = k a := rfl
theorem ob_some {α β : Type} (a : α) (k : α → Res β) : ob (some a) k = k a := rfl
theorem rb_cases {α β : Type} {m : Res α} {k : α → Res β} (h : rb m k ≠ .fail) : (∃ a, m = .ok a ∧ rb m k = k a) ∨ (∃ e, m = .err e ∧ rb m k = .err e) := by
  cases m with
  | ok a => exact .inl ⟨a, rfl, rfl⟩
  | err e => exact .inr ⟨e, rfl, rfl⟩
  | fail => exact absurd rfl h
theorem ob_cases {α β : Type} {m : Option α} {k : α → Res β} (h : ob m k ≠ .fail) : ∃ a, m = some a ∧ ob m k = k a := by
  cases m with
  | some a => exact ⟨a, rfl, rfl⟩
  | none => exact absurd rfl h

def mkS (l : List Nat) : Str := ⟨l.toArray⟩
theorem mkS_cps (l : List Nat) : (mkS l).cps.toList = l := by simp [mkS]
theorem mkS_len (l : List Nat) : (mkS l).length = l.length := by simp [mkS, Str.length]
theorem mkS_of (x : Str) : mkS x.cps.toList = x := by simp [mkS]
theorem mkS_inj {a b : List Nat} (h : mkS a = mkS b) : a = b := by
  have := congrArg (fun s : Str => s.cps.toList) h
  simpa [mkS] using this

/-! what a value tells, in a heap -/
def kD : Key → D
  | .inl i => .int i
  | .inr x => .str x.cps.toList
/-! exceptions: the address of each class; an exception that was caught -/
class EC where
  ec : Nat → Addr
  pg : Program
  wd : World
variable [EC]
def exH (x C : Addr) (dd : Option Addr) : HO := .ext fun h => ∃ (oe : Obj) (vs : Array Value), h.get? x = some oe ∧ Zc (.ref C) dd oe ∧ oe.data = .fields vs
mutual
def Rep (G : Hp) : D → V → Prop
  | .non, v => v = .non
  | .bl b, v => v = .bl b
  | .int i, v => v = .int i
  | .str x, v => v = .str (mkS x)
  | .tup l, v => ∃ a vs, v = .ref a ∧ G a = some (.tup vs) ∧ l.length ≤ sizeLine ∧ Reps G l vs
  | .lst l, v => ∃ a vs, v = .ref a ∧ Rd G a (.lst vs) ∧ l.length ≤ sizeLine ∧ Reps G l vs
  | .dct false l, v => ∃ a kvs, v = .ref a ∧ Rd G a (.dK kvs) ∧ RepK G l kvs
  | .dct true l, v => ∃ a kvs, v = .ref a ∧ G a = some (.dT kvs) ∧ RepT G l kvs
  | .opq w, v => v = w
  | .exc k l, v => ∃ x dd us, v = .ref x ∧ G x = some (exH x (EC.ec k) dd) ∧ Reps G l us ∧ ((us = [] ∧ dd = none) ∨ ∃ u dx, us = [u] ∧ dd = some dx ∧ G dx = some (.xd [("at", u)]))
  | .fd o kvs l, v => ∃ a, v = .ref a ∧ G a = some (.frz o (.dK kvs)) ∧ RepK G l kvs
def Reps (G : Hp) : List D → List V → Prop
  | [], vs => vs = []
  | d :: ds, vs => ∃ v r, vs = v :: r ∧ Rep G d v ∧ Reps G ds r
def RepK (G : Hp) : List (D × D) → List (Key × V) → Prop
  | [], vs => vs = []
  | (k, d) :: ds, vs => ∃ kk v r, vs = (kk, v) :: r ∧ k = kD kk ∧ Rep G d v ∧ RepK G ds r
def RepT (G : Hp) : List (D × D) → List (List Key × V) → Prop
  | [], vs => vs = []
  | (k, d) :: ds, vs => ∃ kk v r, vs = (kk, v) :: r ∧ k = .tup (kk.map kD) ∧ Rep G d v ∧ RepT G ds r
end
theorem Same.rd {G G' : Hp} (s : Same G G') {a : Addr} {o : HO} (h : Rd G a o) : Rd G' a o := by
  rcases h with h | ⟨x, h⟩
  · exact .inl (s _ _ h)
  · exact .inr ⟨x, s _ _ h⟩
mutual
theorem Rep.mono {G G' : Hp} (s : Same G G') : ∀ (d : D) (v : V), Rep G d v → Rep G' d v
  | .non, _, h => h
  | .bl _, _, h => h
  | .int _, _, h => h
  | .str _, _, h => h
  | .opq _, _, h => h
  | .exc k l, _, ⟨x, dd, us, e, r, q, z⟩ => ⟨x, dd, us, e, s _ _ r, Reps.mono s l us q, z.imp id fun ⟨u, dx, a, b, c⟩ => ⟨u, dx, a, b, s _ _ c⟩⟩
  | .fd o kvs l, _, ⟨a, e, r, q⟩ => ⟨a, e, s _ _ r, RepK.mono s l kvs q⟩
  | .tup l, _, ⟨a, vs, e, r, z, q⟩ => ⟨a, vs, e, s _ _ r, z, Reps.mono s l vs q⟩
  | .lst l, _, ⟨a, vs, e, r, z, q⟩ => ⟨a, vs, e, Same.rd s r, z, Reps.mono s l vs q⟩
  | .dct false l, _, ⟨a, kvs, e, r, q⟩ => ⟨a, kvs, e, Same.rd s r, RepK.mono s l kvs q⟩
  | .dct true l, _, ⟨a, kvs, e, r, q⟩ => ⟨a, kvs, e, s _ _ r, RepT.mono s l kvs q⟩
theorem Reps.mono {G G' : Hp} (s : Same G G') : ∀ (l : List D) (vs : List V), Reps G l vs → Reps G' l vs
  | [], _, h => h
  | d :: ds, _, ⟨v, r, e, h, q⟩ => ⟨v, r, e, Rep.mono s d v h, Reps.mono s ds r q⟩
theorem RepK.mono {G G' : Hp} (s : Same G G') : ∀ (l : List (D × D)) (vs : List (Key × V)), RepK G l vs → RepK G' l vs
  | [], _, h => h
  | (k, d) :: ds, _, ⟨kk, v, r, e, ek, h, q⟩ => ⟨kk, v, r, e, ek, Rep.mono s d v h, RepK.mono s ds r q⟩
theorem RepT.mono {G G' : Hp} (s : Same G G') : ∀ (l : List (D × D)) (vs : List (List Key × V)), RepT G l vs → RepT G' l vs
  | [], _, h => h
  | (k, d) :: ds, _, ⟨kk, v, r, e, ek, h, q⟩ => ⟨kk, v, r, e, ek, Rep.mono s d v h, RepT.mono s ds r q⟩
end
theorem Reps.length {G : Hp} : ∀ {l : List D} {vs : List V}, Reps G l vs → l.length = vs.length
  | [], _, h => by cases h; rfl
  | d :: ds, _, ⟨v, r, e, h, q⟩ => by subst e; simp [Reps.length q]
theorem Reps.get {G : Hp} : ∀ {l : List D} {vs : List V} {i : Nat} {d : D}, Reps G l vs → l[i]? = some d → ∃ v, vs[i]? = some v ∧ Rep G d v
  | [], _, _, _, _, e => by simp at e
  | d :: ds, _, 0, x, ⟨v, r, e, h, q⟩, e2 => by subst e; simp at e2; subst e2; exact ⟨v, rfl, h⟩
  | d :: ds, _, i + 1, x, ⟨v, r, e, h, q⟩, e2 => by
    subst e
    obtain ⟨v', a, b⟩ := Reps.get (i := i) q (by simpa using e2)
    exact ⟨v', by simpa using a, b⟩
theorem Reps.of {G : Hp} : ∀ {l : List D} {vs : List V}, l.length = vs.length → (∀ (i : Nat) d v, l[i]? = some d → vs[i]? = some v → Rep G d v) → Reps G l vs
  | [], [], _, _ => rfl
  | [], _ :: _, e, _ => by simp at e
  | _ :: _, [], e, _ => by simp at e
  | d :: ds, v :: vs, e, h => ⟨v, vs, rfl, h 0 d v rfl rfl, Reps.of (by simpa using e) fun i d' v' a b => h (i + 1) d' v' (by simpa using a) (by simpa using b)⟩
theorem Reps.append {G : Hp} : ∀ {l m : List D} {vs ws : List V}, Reps G l vs → Reps G m ws → Reps G (l ++ m) (vs ++ ws)
  | [], _, _, _, h, q => by cases h; exact q
  | d :: ds, _, _, _, ⟨v, r, e, h, q⟩, q2 => by subst e; exact ⟨v, r ++ _, rfl, h, Reps.append q q2⟩
theorem Reps.take {G : Hp} (n : Nat) : ∀ {l : List D} {vs : List V}, Reps G l vs → Reps G (l.take n) (vs.take n) := fun {l vs} h => by
  refine Reps.of (by simp [h.length]) fun i d v a b => ?_
  rw [List.getElem?_take] at a b
  split at a
  · rename_i hi
    rw [if_pos hi] at b
    obtain ⟨v', e, r⟩ := h.get a
    rw [b] at e; cases e; exact r
  · cases a
theorem Reps.drop {G : Hp} (n : Nat) : ∀ {l : List D} {vs : List V}, Reps G l vs → Reps G (l.drop n) (vs.drop n) := fun {l vs} h => by
  refine Reps.of (by simp [h.length]) fun i d v a b => ?_
  rw [List.getElem?_drop] at a b
  obtain ⟨v', e, r⟩ := h.get a
  rw [b] at e; cases e; exact r
theorem Reps.set {G : Hp} {l : List D} {vs : List V} {d : D} {v : V} (i : Nat) (h : Reps G l vs) (r : Rep G d v) : Reps G (l.set i d) (vs.set i v) := by
  refine Reps.of (by simp [h.length]) fun j d' v' a b => ?_
  rw [List.getElem?_set] at a b
  have hl := h.length
  split at a
  · rename_i hj
    split at a
    · rename_i hj2
      rw [if_pos hj, if_pos (by omega)] at b
      cases a; cases b; exact r
    · cases a
  · rename_i hj
    rw [if_neg hj] at b
    obtain ⟨w, e, r'⟩ := h.get a
    rw [b] at e; cases e; exact r'
theorem Reps.dropLast {G : Hp} {l : List D} {vs : List V} (h : Reps G l vs) : Reps G l.dropLast vs.dropLast := by
  rw [List.dropLast_eq_take, List.dropLast_eq_take, h.length]
  exact h.take _
theorem Reps.eraseIdx {G : Hp} {l : List D} {vs : List V} (k : Nat) (h : Reps G l vs) : Reps G (l.eraseIdx k) (vs.eraseIdx k) := by
  rw [List.eraseIdx_eq_take_drop_succ, List.eraseIdx_eq_take_drop_succ]
  exact (h.take k).append (h.drop (k + 1))
theorem Reps.reverse {G : Hp} : ∀ {l : List D} {vs : List V}, Reps G l vs → Reps G l.reverse vs.reverse
  | [], _, h => by cases h; exact rfl
  | d :: ds, _, ⟨v, r, e, h, q⟩ => by
    subst e
    rw [List.reverse_cons, List.reverse_cons]
    exact (Reps.reverse q).append ⟨v, [], rfl, h, rfl⟩
theorem Reps.map {G : Hp} {α : Type} (f : α → D) (g : α → V) : ∀ (xs : List α), (∀ x ∈ xs, Rep G (f x) (g x)) → Reps G (xs.map f) (xs.map g)
  | [], _ => rfl
  | x :: r, h => ⟨g x, r.map g, rfl, h x List.mem_cons_self, Reps.map f g r fun y hy => h y (List.mem_cons_of_mem _ hy)⟩

theorem RepK.ofZip {G : Hp} : ∀ (kvs : List (Key × V)) (ds : List D), Reps G ds (kvs.map Prod.snd) → RepK G ((kvs.map fun q => kD q.1).zip ds) kvs
  | [], [], _ => rfl
  | [], d :: ds, ⟨v, r, e, _⟩ => by cases e
  | q :: kvs, [], h => by cases (show _ :: _ = [] from h)
  | (k, v0) :: kvs, d :: ds, ⟨v, r, e, h, h2⟩ => by
    injection e with e1 e2
    subst e1; subst e2
    exact ⟨k, v0, kvs, rfl, rfl, h, RepK.ofZip kvs ds h2⟩
/-! owned things -/
mutual
def Own (G H : Hp) (ω : Addr → Option Lab) : Lab → T → V → Prop
  | _, .f d, v => Rep G d v
  | p, .l ds, v => ∃ a vs, v = .ref a ∧ H a = some (.lst vs) ∧ ω a = some p ∧ ds.length ≤ sizeLine ∧ Reps G ds vs
  | p, .ll ts, v => ∃ a vs, v = .ref a ∧ H a = some (.lst vs) ∧ ω a = some p ∧ ts.length ≤ sizeLine ∧ Owns G H ω p 0 ts vs
  | p, .tt ts, v => ∃ a vs, v = .ref a ∧ H a = some (.tup vs) ∧ ω a = some p ∧ ts.length ≤ sizeLine ∧ Owns G H ω p 0 ts vs
  | p, .dc false l, v => ∃ a kvs, v = .ref a ∧ ω a = some p ∧ H a = some (.dK kvs) ∧ RepK G l kvs
  | p, .dc true l, v => ∃ a kvs, v = .ref a ∧ ω a = some p ∧ H a = some (.dT kvs) ∧ RepT G l kvs
  | p, .dl ks ts, v => ∃ a kvs, v = .ref a ∧ ω a = some p ∧ H a = some (.dK kvs) ∧ ks = (kvs.map fun q => kD q.1) ∧ Owns G H ω p 0 ts (kvs.map Prod.snd)
  | _, .hole w, v => v = w
def Owns (G H : Hp) (ω : Addr → Option Lab) : Lab → Nat → List T → List V → Prop
  | _, _, [], vs => vs = []
  | p, i, t :: ts, vs => ∃ v r, vs = v :: r ∧ Own G H ω (p ++ [i]) t v ∧ Owns G H ω p (i + 1) ts r
end
mutual
theorem Own.move {G G' H H' : Hp} {ω ω' : Addr → Option Lab} (s : Same G G') : ∀ (p q : Lab) (t : T) (v : V), (∀ a x, ω a = some (p ++ x) → H' a = H a ∧ ω' a = some (q ++ x)) → Own G H ω p t v → Own G' H' ω' q t v
  | _, _, .f d, v, _, h => Rep.mono s d v h
  | p, q, .l ds, v, m, ⟨a, vs, e, h, w, z, r⟩ => by
    obtain ⟨m1, m2⟩ := m a [] (by rw [List.append_nil]; exact w)
    rw [List.append_nil] at m2
    exact ⟨a, vs, e, m1.trans h, m2, z, Reps.mono s ds vs r⟩
  | p, q, .ll ts, v, m, ⟨a, vs, e, h, w, z, r⟩ => by
    obtain ⟨m1, m2⟩ := m a [] (by rw [List.append_nil]; exact w)
    rw [List.append_nil] at m2
    exact ⟨a, vs, e, m1.trans h, m2, z, Owns.move s p q 0 ts vs m r⟩
  | p, q, .tt ts, v, m, ⟨a, vs, e, h, w, z, r⟩ => by
    obtain ⟨m1, m2⟩ := m a [] (by rw [List.append_nil]; exact w)
    rw [List.append_nil] at m2
    exact ⟨a, vs, e, m1.trans h, m2, z, Owns.move s p q 0 ts vs m r⟩
  | p, q, .dc false l, v, m, ⟨a, kvs, e, w, h, r⟩ => by
    obtain ⟨m1, m2⟩ := m a [] (by rw [List.append_nil]; exact w)
    rw [List.append_nil] at m2
    exact ⟨a, kvs, e, m2, m1.trans h, RepK.mono s l kvs r⟩
  | p, q, .dc true l, v, m, ⟨a, kvs, e, w, h, r⟩ => by
    obtain ⟨m1, m2⟩ := m a [] (by rw [List.append_nil]; exact w)
    rw [List.append_nil] at m2
    exact ⟨a, kvs, e, m2, m1.trans h, RepT.mono s l kvs r⟩
  | p, q, .dl ks ts, v, m, ⟨a, kvs, e, w, h, ek, r⟩ => by
    obtain ⟨m1, m2⟩ := m a [] (by rw [List.append_nil]; exact w)
    rw [List.append_nil] at m2
    exact ⟨a, kvs, e, m2, m1.trans h, ek, Owns.move s p q 0 ts _ m r⟩
  | _, _, .hole _, _, _, h => h
theorem Owns.move {G G' H H' : Hp} {ω ω' : Addr → Option Lab} (s : Same G G') : ∀ (p q : Lab) (i : Nat) (ts : List T) (vs : List V), (∀ a x, ω a = some (p ++ x) → H' a = H a ∧ ω' a = some (q ++ x)) → Owns G H ω p i ts vs → Owns G' H' ω' q i ts vs
  | _, _, _, [], _, _, h => h
  | p, q, i, t :: ts, _, m, ⟨v, r, e, h, k⟩ => ⟨v, r, e, Own.move s (p ++ [i]) (q ++ [i]) t v (fun a x e => by
      rw [List.append_assoc] at e ⊢
      exact m a _ e) h, Owns.move s p q (i + 1) ts r m k⟩
end
mutual
def T.er : T → D
  | .f x => x
  | .l ds => .lst ds
  | .ll ts => .lst (T.ers ts)
  | .tt ts => .tup (T.ers ts)
  | .dc k kvs => .dct k kvs
  | .dl ks ts => .dct false (ks.zip (T.ers ts))
  | .hole w => .opq w
def T.ers : List T → List D
  | [] => []
  | t :: ts => T.er t :: T.ers ts
end
theorem ers_eq : ∀ ts : List T, T.ers ts = ts.map T.er
  | [] => rfl
  | t :: ts => by rw [List.map_cons, ← ers_eq ts]; rfl
theorem ers_len (ts : List T) : (T.ers ts).length = ts.length := by rw [ers_eq, List.length_map]
/-! what is told, in a heap that has both -/
mutual
theorem Own.rep {G G' H : Hp} {ω : Addr → Option Lab} (s : Same G G') : ∀ (p : Lab) (t : T) (v : V), (∀ a x, ω a = some (p ++ x) → ∀ o, H a = some o → G' a = some o) → Own G H ω p t v → Rep G' t.er v
  | _, .f d, v, _, h => Rep.mono s d v h
  | p, .l ds, v, m, ⟨a, vs, e, h, w, z, r⟩ => ⟨a, vs, e, .inl (m a [] (by rw [List.append_nil]; exact w) _ h), z, Reps.mono s ds vs r⟩
  | p, .ll ts, v, m, ⟨a, vs, e, h, w, z, r⟩ => ⟨a, vs, e, .inl (m a [] (by rw [List.append_nil]; exact w) _ h), (Nat.le_trans (Nat.le_of_eq (ers_len ts)) z), Owns.rep s p 0 ts vs m r⟩
  | p, .tt ts, v, m, ⟨a, vs, e, h, w, z, r⟩ => ⟨a, vs, e, m a [] (by rw [List.append_nil]; exact w) _ h, (Nat.le_trans (Nat.le_of_eq (ers_len ts)) z), Owns.rep s p 0 ts vs m r⟩
  | p, .dc false l, v, m, ⟨a, kvs, e, w, h, r⟩ => ⟨a, kvs, e, .inl (m a [] (by rw [List.append_nil]; exact w) _ h), RepK.mono s l kvs r⟩
  | p, .dc true l, v, m, ⟨a, kvs, e, w, h, r⟩ => ⟨a, kvs, e, m a [] (by rw [List.append_nil]; exact w) _ h, RepT.mono s l kvs r⟩
  | p, .dl ks ts, v, m, ⟨a, kvs, e, w, h, ek, r⟩ => ⟨a, kvs, e, .inl (m a [] (by rw [List.append_nil]; exact w) _ h), by rw [ek]; exact RepK.ofZip kvs _ (Owns.rep s p 0 ts _ m r)⟩
  | _, .hole _, _, _, h => h
theorem Owns.rep {G G' H : Hp} {ω : Addr → Option Lab} (s : Same G G') : ∀ (p : Lab) (i : Nat) (ts : List T) (vs : List V), (∀ a x, ω a = some (p ++ x) → ∀ o, H a = some o → G' a = some o) → Owns G H ω p i ts vs → Reps G' (T.ers ts) vs
  | _, _, [], _, _, h => h
  | p, i, t :: ts, _, m, ⟨v, r, e, h, k⟩ => ⟨v, r, e, Own.rep s (p ++ [i]) t v (fun a x e => by
      rw [List.append_assoc] at e
      exact m a _ e) h, Owns.rep s p (i + 1) ts r m k⟩
end
end VL

namespace VL
open PySem L2
variable [EC]

/-- a def's frame: what stood at its entry -/
structure Fc where
  K : PySem.W.Frag
  G0 : Hp
  H0 : Hp
  w0 : Addr → Option Lab
  E : XK
  ec : Nat → Addr
  pv : Nat → Option V
inductive TM where
  | own (t : T) | ali (i : Nat)
abbrev State := List (Option T)
abbrev Tmp := List (V × TM)
def TmOk (G H : Hp) (ω : Addr → Option Lab) (σ : St) (p : Lab) : TM → V → Prop
  | .own t, v => Own G H ω p t v
  | .ali i, v => σ[i]? = some (some v)
def Tms (G H : Hp) (ω : Addr → Option Lab) (σ : St) : Tmp → Prop
  | [] => True
  | x :: r => TmOk G H ω σ [1, r.length] x.2 x.1 ∧ Tms G H ω σ r
structure Hd (F : Fc) (G : Hp) (ω : Addr → Option Lab) (tmp : Tmp) (s : State) (σ : St) (H : Hp) : Prop where
  g0 : Same F.G0 G
  gH : Same G H
  gn : ∀ a o, G a = some o → F.G0 a = some o ∨ F.H0 a = none ∨ (F.w0 a).isSome = true
  fr : ∀ a o, F.H0 a = some o → F.w0 a = none → H a = some o
  ex : ∀ a o, F.H0 a = some o → ∃ o', H a = some o'
  wg : ∀ a p, ω a = some p → G a = none ∧ (∃ o, H a = some o) ∧ (F.H0 a = none ∨ (F.w0 a).isSome = true)
  len : σ.length = s.length
  sl : ∀ i t, s[i]? = some (some t) → ∃ v, σ[i]? = some (some v) ∧ Own G H ω [0, i] t v
  tm : Tms G H ω σ tmp
  pn : ∀ k v, F.pv k = some v → σ[k]? = some (some v)
def Holds (F : Fc) (tmp : Tmp) (s : State) (σ : St) (H : Hp) : Prop := ∃ G ω, Hd F G ω tmp s σ H

/-- temporaries stay where their labels' objects stay -/
theorem Tms.move {G G' H H' : Hp} {ω ω' : Addr → Option Lab} {σ : St} (s : Same G G') : ∀ (tmp : Tmp), (∀ j a x, j < tmp.length → ω a = some ([1, j] ++ x) → H' a = H a ∧ ω' a = some ([1, j] ++ x)) →
    Tms G H ω σ tmp → Tms G' H' ω' σ tmp
  | [], _, _ => trivial
  | x :: r, m, ⟨a, b⟩ => by
    refine ⟨?_, Tms.move s r (fun j a x hj e => m j a x (Nat.lt_succ_of_lt hj) e) b⟩
    obtain ⟨v, tm⟩ := x
    cases tm with
    | own t => exact Own.move s _ _ t v (fun a x e => m _ a x (Nat.lt_succ_self _) e) a
    | ali i => exact a
section
variable {F : Fc} {G H H' : Hp} {ω : Addr → Option Lab} {tmp : Tmp} {s : State} {σ : St} {v : V} {t : T} {d : D}
theorem Hd.new (h : Hd F G ω tmp s σ H) {p : Addr} (n : H p = none) : F.H0 p = none := by
  cases e : F.H0 p with
  | none => rfl
  | some o =>
    obtain ⟨o', e'⟩ := h.ex p o e
    rw [n] at e'; cases e'
theorem Hd.gfree (h : Hd F G ω tmp s σ H) {p : Addr} (n : H p = none) : G p = none := by
  cases e : G p with
  | none => rfl
  | some o => rw [h.gH p o e] at n; cases n
theorem Hd.wfree (h : Hd F G ω tmp s σ H) {p : Addr} (n : H p = none) : ω p = none := by
  cases e : ω p with
  | none => rfl
  | some q =>
    obtain ⟨_, ⟨o, e'⟩, _⟩ := h.wg p q e
    rw [n] at e'; cases e'
theorem Hd.pop (h : Hd F G ω (x :: tmp) s σ H) : Hd F G ω tmp s σ H := { h with tm := h.tm.2 }
theorem Holds.pop {x : V × TM} (h : Holds F (x :: tmp) s σ H) : Holds F tmp s σ H := let ⟨G, ω, q⟩ := h; ⟨G, ω, q.pop⟩
theorem Holds.len (h : Holds F tmp s σ H) : σ.length = s.length := let ⟨_, _, q⟩ := h; q.len
/-- a frozen temporary on top -/
theorem Hd.pushF (h : Hd F G ω tmp s σ H) (r : Rep G d v) : Hd F G ω ((v, .own (.f d)) :: tmp) s σ H := { h with tm := ⟨r, h.tm⟩ }
theorem Hd.topF (h : Hd F G ω ((v, .own (.f d)) :: tmp) s σ H) : Rep G d v := h.tm.1
theorem upd_keep {p a : Addr} {o u : HO} (n : H p = none) (e : H a = some o) : upd H p u a = some o := by rw [upd_ne (ne_of_none e n)]; exact e
/-- a new object, frozen -/
theorem Hd.newG (h : Hd F G ω tmp s σ H) {p : Addr} {o : HO} (n : H p = none) : Hd F (upd G p o) ω tmp s σ (upd H p o) := by
  have gn := h.gfree n
  have sG : Same G (upd G p o) := fun a u e => upd_keep gn e
  have keep : ∀ a q, ω a = some q → upd H p o a = H a := fun a q e => by
    obtain ⟨_, ⟨u, e'⟩, _⟩ := h.wg a q e
    exact upd_ne (ne_of_none e' n)
  refine ⟨h.g0.trans sG, fun a u e => ?_, fun a u e => ?_, fun a u e w => upd_keep n (h.fr a u e w), fun a u e => ?_, fun a q e => ?_, h.len, fun i t e => ?_, Tms.move sG tmp (fun j a x _ e => ⟨keep a _ e, e⟩) h.tm, h.pn⟩
  · by_cases ha : a = p
    · subst ha; rw [upd_same] at e ⊢; exact e
    · rw [upd_ne ha] at e ⊢; exact h.gH a u e
  · by_cases ha : a = p
    · subst ha; exact .inr (.inl (h.new n))
    · rw [upd_ne ha] at e; exact h.gn a u e
  · obtain ⟨o', e'⟩ := h.ex a u e
    exact ⟨o', upd_keep n e'⟩
  · obtain ⟨q1, ⟨u, q2⟩, q3⟩ := h.wg a q e
    refine ⟨?_, ⟨u, upd_keep n q2⟩, q3⟩
    rw [upd_ne (ne_of_none q2 n)]; exact q1
  · obtain ⟨v, e1, e2⟩ := h.sl i t e
    exact ⟨v, e1, Own.move sG _ _ t v (fun a x e => ⟨keep a _ e, e⟩) e2⟩
/-- a new object, owned by a new temporary -/
theorem Hd.newO (h : Hd F G ω tmp s σ H) {p : Addr} {o : HO} (n : H p = none) (q : Own G (upd H p o) (fun a => if a = p then some [1, tmp.length] else ω a) [1, tmp.length] t (.ref p)) :
    Hd F G (fun a => if a = p then some [1, tmp.length] else ω a) ((.ref p, .own t) :: tmp) s σ (upd H p o) := by
  have keep : ∀ a q, ω a = some q → upd H p o a = H a ∧ (if a = p then some [1, tmp.length] else ω a) = some q := fun a q e => by
    obtain ⟨_, ⟨u, e'⟩, _⟩ := h.wg a q e
    have ne := ne_of_none e' n
    exact ⟨upd_ne ne, by rw [if_neg ne]; exact e⟩
  refine ⟨h.g0, fun a u e => upd_keep n (h.gH a u e), h.gn, fun a u e w => upd_keep n (h.fr a u e w), fun a u e => ?_, fun a q e => ?_, h.len, fun i t e => ?_, ⟨q, Tms.move (Same.refl _) tmp (fun j a x _ e => keep a _ e) h.tm⟩, h.pn⟩
  · obtain ⟨o', e'⟩ := h.ex a u e
    exact ⟨o', upd_keep n e'⟩
  · by_cases ha : a = p
    · subst ha; exact ⟨h.gfree n, ⟨o, upd_same⟩, .inl (h.new n)⟩
    · simp only [if_neg ha] at e
      obtain ⟨q1, ⟨u, q2⟩, q3⟩ := h.wg a q e
      exact ⟨q1, ⟨u, upd_keep n q2⟩, q3⟩
  · obtain ⟨v, e1, e2⟩ := h.sl i t e
    exact ⟨v, e1, Own.move (Same.refl _) _ _ t v (fun a x e => keep a _ e) e2⟩
theorem Hd.newL (h : Hd F G ω tmp s σ H) {p : Addr} {ds : List D} {vs : List V} (n : H p = none) (z : ds.length ≤ sizeLine) (r : Reps G ds vs) : Holds F ((.ref p, .own (.l ds)) :: tmp) s σ (upd H p (.lst vs)) :=
  ⟨G, _, h.newO n ⟨p, vs, rfl, upd_same, by simp, z, r⟩⟩
theorem Hd.newT (h : Hd F G ω tmp s σ H) {p : Addr} {ds : List D} {vs : List V} (n : H p = none) (z : ds.length ≤ sizeLine) (r : Reps G ds vs) : Holds F ((.ref p, .own (.f (.tup ds))) :: tmp) s σ (upd H p (.tup vs)) :=
  ⟨_, ω, (h.newG n).pushF ⟨p, vs, rfl, upd_same, z, Reps.mono (fun a u e => upd_keep (h.gfree n) e) _ _ r⟩⟩

/-! freezing -/
def pre : Lab → Lab → Bool
  | [], _ => true
  | _ :: _, [] => false
  | a :: p, b :: q => a == b && pre p q
theorem pre_app : ∀ (p x : Lab), pre p (p ++ x) = true
  | [], _ => rfl
  | a :: p, x => by simp [pre, pre_app p x]
theorem pre_iff : ∀ (p q : Lab), pre p q = true → ∃ x, q = p ++ x
  | [], q, _ => ⟨q, rfl⟩
  | a :: p, [], h => by simp [pre] at h
  | a :: p, b :: q, h => by
    simp [pre] at h
    obtain ⟨rfl, h⟩ := h
    obtain ⟨x, rfl⟩ := pre_iff p q h
    exact ⟨x, rfl⟩
/-- label p is frozen -/
def frzG (G H : Hp) (ω : Addr → Option Lab) (p : Lab) : Hp := fun a => match ω a with
  | some q => if pre p q = true then H a else G a
  | none => G a
def frzW (ω : Addr → Option Lab) (p : Lab) : Addr → Option Lab := fun a => match ω a with
  | some q => if pre p q = true then none else some q
  | none => none
theorem frzW_some {p q : Lab} {a : Addr} (e : frzW ω p a = some q) : ω a = some q ∧ pre p q = false := by
  unfold frzW at e
  split at e
  · rename_i r hr
    split at e
    · cases e
    · cases e; rename_i hn; exact ⟨hr, Bool.eq_false_iff.mpr hn⟩
  · cases e
theorem frzW_of {p q : Lab} {a : Addr} (e : ω a = some q) (n : pre p q = false) : frzW ω p a = some q := by
  unfold frzW; rw [e]; simp [n]
theorem frzG_same (h : Hd F G ω tmp s σ H) (p : Lab) : Same G (frzG G H ω p) := fun a o e => by
  unfold frzG
  split
  · rename_i q hq
    have := (h.wg a q hq).1
    rw [e] at this; cases this
  · exact e
theorem frzG_in {p q : Lab} {a : Addr} (e : ω a = some q) (n : pre p q = true) : frzG G H ω p a = H a := by
  unfold frzG; rw [e]; simp [n]
/-- everything but the slots and temporaries -/
theorem Hd.frz (h : Hd F G ω tmp s σ H) (p : Lab) (s' : State) (σ' : St) (tmp' : Tmp) (hl : σ'.length = s'.length)
    (hs : ∀ i t, s'[i]? = some (some t) → ∃ v, σ'[i]? = some (some v) ∧ Own (frzG G H ω p) H (frzW ω p) [0, i] t v) (ht : Tms (frzG G H ω p) H (frzW ω p) σ' tmp') (hp : ∀ k v, F.pv k = some v → σ'[k]? = some (some v)) : Hd F (frzG G H ω p) (frzW ω p) tmp' s' σ' H := by
  have sG := frzG_same h p
  refine ⟨h.g0.trans sG, fun a o e => ?_, fun a o e => ?_, h.fr, h.ex, fun a q e => ?_, hl, hs, ht, hp⟩
  · unfold frzG at e
    split at e
    · split at e
      · exact e
      · exact h.gH a o e
    · exact h.gH a o e
  · unfold frzG at e
    split at e
    · rename_i q hq
      split at e
      · exact .inr (h.wg a q hq).2.2
      · exact h.gn a o e
    · exact h.gn a o e
  · obtain ⟨e1, e2⟩ := frzW_some e
    obtain ⟨q1, q2, q3⟩ := h.wg a q e1
    refine ⟨?_, q2, q3⟩
    unfold frzG; rw [e1]; simp [e2, q1]
theorem Own.frzOther {p q : Lab} (sG : Same G (frzG G H ω p)) (hpq : ∀ x, pre p (q ++ x) = false) (h : Own G H ω q t v) : Own (frzG G H ω p) H (frzW ω p) q t v :=
  Own.move sG q q t v (fun a x e => ⟨rfl, frzW_of e (hpq x)⟩) h
theorem Own.frzRep {p : Lab} (sG : Same G (frzG G H ω p)) (h : Own G H ω p t v) : Rep (frzG G H ω p) t.er v :=
  Own.rep sG p t v (fun a x e o ho => by rw [frzG_in e (pre_app p x)]; exact ho) h
theorem Tms.frzOther {p : Lab} (sG : Same G (frzG G H ω p)) (tmp : Tmp) (hp : ∀ j x, j < tmp.length → pre p ([1, j] ++ x) = false) (h : Tms G H ω σ tmp) : Tms (frzG G H ω p) H (frzW ω p) σ tmp :=
  Tms.move sG tmp (fun j a x hj e => ⟨rfl, frzW_of e (hp j x hj)⟩) h
/-- the top temporary is frozen -/
theorem Holds.frzTop (h : Holds F ((v, .own t) :: tmp) s σ H) : Holds F ((v, .own (.f t.er)) :: tmp) s σ H := by
  obtain ⟨G, ω, h⟩ := h
  have sG := frzG_same h [1, tmp.length]
  refine ⟨_, _, h.frz [1, tmp.length] s σ _ h.len (fun i u e => ?_) ⟨Own.frzRep sG h.tm.1, Tms.frzOther sG tmp (fun j x hj => ?_) h.tm.2⟩ h.pn⟩
  · obtain ⟨v', e1, e2⟩ := h.sl i u e
    exact ⟨v', e1, Own.frzOther sG (fun x => by simp [pre]) e2⟩
  · have : tmp.length ≠ j := by omega
    simp [pre, this]
/-- a slot is frozen -/
theorem Holds.frzSlot (h : Holds F tmp s σ H) {i : Nat} (hi : s[i]? = some (some t)) : Holds F tmp (s.set i (some (.f t.er))) σ H := by
  obtain ⟨G, ω, h⟩ := h
  have sG := frzG_same h [0, i]
  refine ⟨_, _, h.frz [0, i] _ σ _ (by simp [h.len]) (fun j u e => ?_) (Tms.frzOther sG tmp (fun j x hj => by simp [pre]) h.tm) h.pn⟩
  rw [List.getElem?_set] at e
  split at e
  · rename_i hj
    subst hj
    split at e
    · cases e
      obtain ⟨v', e1, e2⟩ := h.sl i t hi
      exact ⟨v', e1, Own.frzRep sG e2⟩
    · cases e
  · rename_i hj
    obtain ⟨v', e1, e2⟩ := h.sl j u e
    exact ⟨v', e1, Own.frzOther sG (fun x => by simp [pre, hj]) e2⟩
end
end VL

namespace VL
open PySem L2
variable [EC]

/-! relabelling, storing -/
def rl (ω : Addr → Option Lab) (φ : Lab → Option Lab) : Addr → Option Lab := fun a => (ω a).bind φ
theorem rl_some {ω : Addr → Option Lab} {φ : Lab → Option Lab} {a : Addr} {q : Lab} (h : rl ω φ a = some q) : ∃ p, ω a = some p ∧ φ p = some q := by
  unfold rl at h
  cases e : ω a with
  | none => rw [e] at h; cases h
  | some p => rw [e] at h; exact ⟨p, rfl, h⟩
theorem rl_of {ω : Addr → Option Lab} {φ : Lab → Option Lab} {a : Addr} {p q : Lab} (h : ω a = some p) (h2 : φ p = some q) : rl ω φ a = some q := by
  unfold rl; rw [h]; exact h2
section
variable {F : Fc} {G H H' : Hp} {ω : Addr → Option Lab} {tmp : Tmp} {s : State} {σ : St} {v : V} {t : T} {d : D}
theorem Hd.rl (h : Hd F G ω tmp s σ H) (φ : Lab → Option Lab) (s' : State) (σ' : St) (tmp' : Tmp) (hl : σ'.length = s'.length)
    (hs : ∀ i t, s'[i]? = some (some t) → ∃ v, σ'[i]? = some (some v) ∧ Own G H (VL.rl ω φ) [0, i] t v) (ht : Tms G H (VL.rl ω φ) σ' tmp') (hp : ∀ k v, F.pv k = some v → σ'[k]? = some (some v)) : Hd F G (VL.rl ω φ) tmp' s' σ' H :=
  ⟨h.g0, h.gH, h.gn, h.fr, h.ex, fun a q e => by
    obtain ⟨p, e1, _⟩ := rl_some e
    exact h.wg a p e1, hl, hs, ht, hp⟩
theorem Own.rl {φ : Lab → Option Lab} {p q : Lab} (h : Own G H ω p t v) (e : ∀ x, φ (p ++ x) = some (q ++ x)) : Own G H (VL.rl ω φ) q t v :=
  Own.move (Same.refl G) p q t v (fun a x w => ⟨rfl, rl_of w (e x)⟩) h
theorem Tms.rl {φ : Lab → Option Lab} (tmp : Tmp) (e : ∀ j x, j < tmp.length → φ ([1, j] ++ x) = some ([1, j] ++ x)) (h : Tms G H ω σ tmp) : Tms G H (VL.rl ω φ) σ tmp :=
  Tms.move (Same.refl G) tmp (fun j a x hj w => ⟨rfl, rl_of w (e j x hj)⟩) h
/-- no temporary speaks of slot i -/
def noAli (i : Nat) : Tmp → Bool
  | [] => true
  | (_, .own _) :: r => noAli i r
  | (_, .ali j) :: r => (j != i) && noAli i r
theorem Tms.slots {σ' : St} : ∀ (tmp : Tmp), (∀ i, noAli i tmp = false → σ'[i]? = σ[i]?) → Tms G H ω σ tmp → Tms G H ω σ' tmp
  | [], _, _ => trivial
  | (v, .own t) :: r, m, ⟨a, b⟩ => ⟨a, Tms.slots r (fun i h => m i h) b⟩
  | (v, .ali j) :: r, m, ⟨a, b⟩ => ⟨(m j (by simp [noAli])).trans a, Tms.slots r (fun i h => m i (by simp [noAli, h])) b⟩
def phiSt (n i : Nat) : Lab → Option Lab
  | 1 :: j :: x => if j = n then some (0 :: i :: x) else some (1 :: j :: x)
  | 0 :: j :: x => if j = i then none else some (0 :: j :: x)
  | l => some l
/-- the top temporary goes into slot i -/
theorem Holds.store (h : Holds F ((v, .own t) :: tmp) s σ H) {i : Nat} (hi : i < s.length) (na : noAli i tmp = true) (hp : F.pv i = none) : Holds F tmp (s.set i (some t)) (σ.set i (some v)) H := by
  obtain ⟨G, ω, h⟩ := h
  refine ⟨G, _, h.rl (phiSt tmp.length i) _ _ _ (by simp [h.len]) (fun j u e => ?_) ?_ fun k u e => ?_⟩
  · rw [List.getElem?_set] at e
    by_cases hj : i = j
    · subst hj
      rw [if_pos rfl, if_pos hi] at e
      cases e
      refine ⟨v, by rw [List.getElem?_set_self (by rw [h.len]; exact hi)], Own.rl h.tm.1 fun x => by simp [phiSt]⟩
    · rw [if_neg hj] at e
      obtain ⟨v', e1, e2⟩ := h.sl j u e
      have hj' : ¬ j = i := fun z => hj z.symm
      exact ⟨v', by rw [List.getElem?_set_ne hj]; exact e1, Own.rl e2 fun x => by simp [phiSt, hj']⟩
  · refine Tms.slots tmp (fun j hj => ?_) (Tms.rl tmp (fun j x hj => ?_) h.tm.2)
    · have : i ≠ j := fun e => by subst e; rw [na] at hj; cases hj
      rw [List.getElem?_set_ne this]
    · have : ¬ j = tmp.length := by omega
      simp [phiSt, this]
  · have : i ≠ k := fun z => by subst z; rw [hp] at e; cases e
    rw [List.getElem?_set_ne this]
    exact h.pn k u e
/-- less is known -/
def Sub : State → State → Prop
  | [], [] => True
  | a :: r, b :: q => (b = none ∨ a = b) ∧ Sub r q
  | _, _ => False
theorem Sub.refl : ∀ s : State, Sub s s
  | [] => trivial
  | _ :: r => ⟨.inr rfl, Sub.refl r⟩
theorem Sub.len : ∀ {s q : State}, Sub s q → s.length = q.length
  | [], [], _ => rfl
  | _ :: r, _ :: q, h => by simp [Sub.len h.2]
theorem Sub.get : ∀ {s q : State} {i : Nat} {t : T}, Sub s q → q[i]? = some (some t) → s[i]? = some (some t)
  | [], [], _, _, _, e => by simp at e
  | a :: r, b :: q, 0, t, ⟨h, _⟩, e => by
    simp at e
    rcases h with h | h
    · rw [h] at e; cases e
    · simp [h, e]
  | a :: r, b :: q, i + 1, t, ⟨_, h⟩, e => by
    have := Sub.get (i := i) h (by simpa using e)
    simpa using this
theorem Holds.sub (h : Holds F tmp s σ H) {s' : State} (q : Sub s s') : Holds F tmp s' σ H :=
  let ⟨G, ω, h⟩ := h
  ⟨G, ω, { h with len := h.len.trans q.len, sl := fun i t e => h.sl i t (q.get e) }⟩
def phiRet (n : Nat) : Lab → Option Lab
  | 1 :: j :: x => if j = n then some (1 :: 0 :: x) else none
  | l => some l
/-- the top temporary alone -/
theorem Holds.alone (h : Holds F ((v, .own t) :: tmp) s σ H) : Holds F [(v, .own t)] s σ H := by
  obtain ⟨G, ω, h⟩ := h
  refine ⟨G, _, h.rl (phiRet tmp.length) s σ _ h.len (fun j u e => ?_) ⟨?_, trivial⟩ h.pn⟩
  · obtain ⟨v', e1, e2⟩ := h.sl j u e
    exact ⟨v', e1, Own.rl e2 fun x => by simp [phiRet]⟩
  · exact Own.rl h.tm.1 fun x => by simp [phiRet]
end

/-! the readings -/
def ErrP (F : Fc) (e : Ex) (od : Option Addr) (H' : Hp) : Prop :=
  ∃ G', Same F.G0 G' ∧ Same G' H' ∧ (∀ a o, G' a = some o → F.G0 a = some o ∨ F.H0 a = none ∨ (F.w0 a).isSome = true) ∧ (∀ a o, F.H0 a = some o → F.w0 a = none → H' a = some o) ∧
    (∀ a o, F.H0 a = some o → ∃ o', H' a = some o') ∧
    (match e.a with | none => od = none | some d => ∃ dx v, od = some dx ∧ F.H0 dx = none ∧ G' dx = some (.xd [("at", v)]) ∧ Rep G' d v)
def EOk {R : Type} (F : Fc) (m : Res R) : Prop := ∀ e, m = .err e → ∀ od H', ErrP F e od H' → F.E (.ref (F.ec e.k)) od H'
theorem EOk.of {R S : Type} {F : Fc} {m : Res R} {m' : Res S} (h : EOk F m) (q : ∀ e, m' = .err e → m = .err e) : EOk F m' := fun e he => h e (q e he)
abbrev Rs (R : Type) := TM → State → Res R → Prop
def RD {R : Type} (F : Fc) (tmp : Tmp) (s : State) (t : TE) (m : Res R) (K : Rs R) : Prop :=
  ∀ σ H Q, Holds F tmp s σ H → m ≠ .fail → EOk F m → (∀ tm s' v H', K tm s' m → Holds F ((v, tm) :: tmp) s' σ H' → Q v H') → t σ H Q
end VL

namespace VL
open PySem L2
variable [EC]

def pushes : List V → List TM → Tmp → Tmp
  | v :: vs, t :: ts, tmp => pushes vs ts ((v, t) :: tmp)
  | _, _, tmp => tmp
abbrev Rn (R : Type) := State → Res R → Prop
abbrev Rr (R : Type) := T → State → Res R → Prop
section
variable {R : Type} (F : Fc) (tmp : Tmp) (s : State) (m : Res R)
def RT (t : TT) (K : Bool → State → Res R → Prop) : Prop :=
  ∀ σ H Q, Holds F tmp s σ H → m ≠ .fail → EOk F m → (∀ b s' H', K b s' m → Holds F tmp s' σ H' → Q b H') → t σ H Q
def RA (t : TA) (K : List TM → State → Res R → Prop) : Prop :=
  ∀ σ H Q, Holds F tmp s σ H → m ≠ .fail → EOk F m → (∀ tms s' vs H', K tms s' m → vs.length = tms.length → Holds F (pushes vs tms tmp) s' σ H' → Q vs H') → t σ H Q
def RS (t : TS) (N : Rn R) (Rt : Rr R) : Prop :=
  ∀ σ H D, Holds F tmp s σ H → m ≠ .fail → EOk F m → (∀ s' σ' H', N s' m → Holds F tmp s' σ' H' → D.nx σ' H') → (∀ t s' v σ' H', Rt t s' m → Holds F [(v, .own t)] s' σ' H' → D.rt v H') → t D σ H
end
section
variable {R : Type} {F : Fc} {tmp : Tmp} {s : State} {m : Res R} {K : Rs R} {N : Rn R} {Rt : Rr R}

/-! names, constants -/
theorem rd_var {i : Nat} {d : D} (h : s[i]? = some (some (.f d))) (k : K (.own (.f d)) s m) : RD F tmp s (tVar i) m K := fun σ H Q hh _ _ q => by
  obtain ⟨G, ω, h1⟩ := hh
  obtain ⟨v, e, o⟩ := h1.sl i _ h
  exact ⟨v, e, q _ _ v H k ⟨G, ω, h1.pushF o⟩⟩
/-- a slot as it lies -/
theorem rd_ali {i : Nat} {t : T} (h : s[i]? = some (some t)) (k : K (.ali i) s m) : RD F tmp s (tVar i) m K := fun σ H Q hh _ _ q => by
  obtain ⟨G, ω, h1⟩ := hh
  obtain ⟨v, e, o⟩ := h1.sl i _ h
  exact ⟨v, e, q _ _ v H k ⟨G, ω, { h1 with tm := ⟨e, h1.tm⟩ }⟩⟩
/-- an owned slot, frozen from here on -/
theorem rd_frz {i : Nat} {t : T} (h : s[i]? = some (some t)) (k : K (.own (.f t.er)) (s.set i (some (.f t.er))) m) : RD F tmp s (tVar i) m K := fun σ H Q hh _ _ q => by
  have h2 := hh.frzSlot h
  obtain ⟨G, ω, h1⟩ := h2
  have hi : i < s.length := (List.getElem?_eq_some_iff.mp h).1
  obtain ⟨v, e, o⟩ := h1.sl i (.f t.er) (by rw [List.getElem?_set_self hi])
  exact ⟨v, e, q _ _ v H k ⟨G, ω, h1.pushF o⟩⟩
def phiMv (n i : Nat) : Lab → Option Lab
  | 0 :: j :: x => if j = i then some (1 :: n :: x) else some (0 :: j :: x)
  | 1 :: j :: x => if j = n then none else some (1 :: j :: x)
  | l => some l
/-- an owned slot, moved out -/
theorem rd_mv {i : Nat} {t : T} (h : s[i]? = some (some t)) (k : K (.own t) (s.set i none) m) : RD F tmp s (tVar i) m K := fun σ H Q hh _ _ q => by
  obtain ⟨G, ω, h1⟩ := hh
  obtain ⟨v, e, o⟩ := h1.sl i _ h
  refine ⟨v, e, q _ _ v H k ⟨G, _, h1.rl (phiMv tmp.length i) _ σ _ (by simp [h1.len]) (fun j u e2 => ?_) ⟨Own.rl o fun x => by simp [phiMv], Tms.rl tmp (fun j x hj => ?_) h1.tm⟩ h1.pn⟩⟩
  · rw [List.getElem?_set] at e2
    by_cases hj : i = j
    · subst hj
      rw [if_pos rfl] at e2
      split at e2 <;> cases e2
    · rw [if_neg hj] at e2
      obtain ⟨v', a, b⟩ := h1.sl j u e2
      have hj' : ¬ j = i := fun z => hj z.symm
      exact ⟨v', a, Own.rl b fun x => by simp [phiMv, hj']⟩
  · have : ¬ j = tmp.length := by omega
    simp [phiMv, this]
theorem holds_push {σ : St} {H : Hp} {d : D} {v : V} (h : Holds F tmp s σ H) (r : ∀ G, Rep G d v) : Holds F ((v, .own (.f d)) :: tmp) s σ H :=
  let ⟨G, ω, h1⟩ := h
  ⟨G, ω, h1.pushF (r G)⟩
theorem rd_int {i : Int} (k : K (.own (.f (.int i))) s m) : RD F tmp s (tC (.int i)) m K := fun σ H Q hh _ _ q => q _ _ _ H k (holds_push hh fun _ => rfl)
theorem rd_bl {b : Bool} (k : K (.own (.f (.bl b))) s m) : RD F tmp s (tC (.bl b)) m K := fun σ H Q hh _ _ q => q _ _ _ H k (holds_push hh fun _ => rfl)
theorem rd_non (k : K (.own (.f .non)) s m) : RD F tmp s (tC .non) m K := fun σ H Q hh _ _ q => q _ _ _ H k (holds_push hh fun _ => rfl)
theorem rd_str {x : Str} {l : List Nat} (e : x = mkS l) (k : K (.own (.f (.str l))) s m) : RD F tmp s (tC (.str x)) m K := fun σ H Q hh _ _ q => q _ _ _ H k (holds_push hh fun _ => congrArg V.str e)

/-! blocks -/
theorem rs_seq {t u : TS} (h : RS F tmp s m t (fun s1 m1 => RS F tmp s1 m1 u N Rt) Rt) : RS F tmp s m (tSeq t u) N Rt := fun σ H D hh nf eo nx rt =>
  h σ H { D with nx := u D } hh nf eo (fun s' σ' H' hn h1 => hn σ' H' D h1 nf eo nx rt) rt
theorem rs_next (k : N s m) : RS F tmp s m tNext N Rt := fun σ H D hh _ _ nx _ => nx s σ H k hh
theorem rs_never {t : TS} (e : m = .fail) : RS F tmp s m t N Rt := fun σ H D hh nf _ _ _ => absurd e nf
/-- less is kept -/
theorem rs_sub {t : TS} {s' : State} (q : Sub s s') (h : RS F tmp s' m t N Rt) : RS F tmp s m t N Rt := fun σ H D hh => h σ H D (hh.sub q)
theorem rs_set {te : TE} {i : Nat} (h : RD F tmp s te m (fun tm s1 m1 => ∃ t, tm = .own t ∧ i < s1.length ∧ N (s1.set i (some t)) m1)) (na : noAli i tmp = true) (hp : F.pv i = none) : RS F tmp s m (tAsg te (gName i)) N Rt := fun σ H D hh nf eo nx rt =>
  h σ H _ hh nf eo fun tm s' v H' ⟨t, e, hl, hn⟩ h1 => by
    subst e
    exact nx _ _ _ hn (h1.store hl na hp)
theorem rs_drop {te : TE} (h : RD F tmp s te m (fun _ s1 m1 => N s1 m1)) : RS F tmp s m (tDrop te) N Rt := fun σ H D hh nf eo nx rt =>
  h σ H _ hh nf eo fun tm s' v H' hn h1 => nx _ _ _ hn h1.pop
theorem rs_ret {te : TE} (h : RD F tmp s te m (fun tm s1 m1 => ∃ t, tm = .own t ∧ Rt t s1 m1)) : RS F tmp s m (tRet te) N Rt := fun σ H D hh nf eo nx rt =>
  h σ H _ hh nf eo fun tm s' v H' ⟨t, e, hn⟩ h1 => by
    subst e
    exact rt _ _ _ σ _ hn h1.alone
theorem rs_retN (h : Rt (.f .non) s m) : RS F tmp s m tRetN N Rt := fun σ H D hh nf eo nx rt =>
  rt _ _ _ σ _ h (holds_push (d := .non) (v := .non) hh fun _ => rfl).alone
/-- an if; what follows is told twice -/
theorem rs_if {c : TT} {t u : TS} (h : RT F tmp s m c (fun b s1 m1 => ∃ ma mb, m1 = (if b = true then ma else mb) ∧ (b = true → RS F tmp s1 ma t N Rt) ∧ (b = false → RS F tmp s1 mb u N Rt))) : RS F tmp s m (tIfS c t u) N Rt := fun σ H D hh nf eo nx rt =>
  h σ H _ hh nf eo fun b s' H' ⟨ma, mb, e, ha, hb⟩ h1 => by
    cases b with
    | true => simp only [if_true] at e ⊢; subst e; exact ha rfl σ H' D h1 nf eo nx rt
    | false => simp only [Bool.false_eq_true, if_false] at e ⊢; subst e; exact hb rfl σ H' D h1 nf eo nx rt
/-- a part of its own: its mirror ends in what is bound behind it -/
theorem rs_bind {S : Type} {t : TS} {ma : Res S} {k : S → Res R} {N' : Rn S} {Rt' : Rr S} (e : m = rb ma k) (h : RS F tmp s ma t N' Rt')
    (hn : ∀ s' z, N' s' (.ok z) → N s' (k z)) (hr : ∀ t s' z, Rt' t s' (.ok z) → Rt t s' (k z)) (ne : ∀ s' m', N' s' m' → ∃ z, m' = .ok z) (re : ∀ t s' m', Rt' t s' m' → ∃ z, m' = .ok z) : RS F tmp s m t N Rt := fun σ H D hh nf eo nx rt => by
  subst e
  have nf' : ma ≠ .fail := fun z => nf (by rw [z]; rfl)
  refine h σ H D hh nf' (eo.of fun e he => by rw [he]; rfl) (fun s' σ' H' hk h1 => ?_) fun t s' v σ' H' hk h1 => ?_
  · obtain ⟨z, ez⟩ := ne _ _ hk
    rw [ez] at hk
    refine nx s' σ' H' ?_ h1
    have := hn s' z hk
    rwa [ez]
  · obtain ⟨z, ez⟩ := re _ _ _ hk
    rw [ez] at hk
    refine rt t s' v σ' H' ?_ h1
    have := hr t s' z hk
    rwa [ez]

/-! arguments -/
theorem ra_nil {K : List TM → State → Res R → Prop} (k : K [] s m) : RA F tmp s m tNil K := fun σ H Q hh _ _ q => q [] s [] H k rfl hh
theorem ra_cons {ta : TE} {tr : TA} {K : List TM → State → Res R → Prop} (h : RD F tmp s ta m (fun tm s1 m1 => ∀ v, RA F ((v, tm) :: tmp) s1 m1 tr (fun tms s2 m2 => K (tm :: tms) s2 m2))) : RA F tmp s m (tCons ta tr) K := fun σ H Q hh nf eo q =>
  h σ H _ hh nf eo fun tm s' v H' hk h1 => hk v σ H' _ h1 nf eo fun tms s2 vs H2 hk2 hl h2 => q (tm :: tms) s2 (v :: vs) H2 hk2 (by simp [hl]) h2
end
end VL

namespace VL
open PySem L2
variable [EC]

/-! calls -/
def wAfter (G : Hp) (w : Addr → Option Lab) (H : Hp) (G' : Hp) (H' : Hp) : Prop :=
  Same G G' ∧ Same G' H' ∧ (∀ a o, G' a = some o → G a = some o ∨ H a = none ∨ (w a).isSome = true) ∧ (∀ a o, H a = some o → w a = none → H' a = some o) ∧ (∀ a o, H a = some o → ∃ o', H' a = some o')
def PostOk (G : Hp) (w : Addr → Option Lab) (H : Hp) (r : T) (outs : List (Option T)) (v : V) (vs : List V) (H' : Hp) : Prop :=
  ∃ G' w', wAfter G w H G' H' ∧ (∀ a p, w' a = some p → G' a = none ∧ (∃ o, H' a = some o) ∧ (H a = none ∨ (w a).isSome = true)) ∧
    Own G' H' w' [2] r v ∧ ∀ k t, outs[k]? = some (some t) → ∃ u, vs[k]? = some u ∧ Own G' H' w' [0, k] t u
def ErrQ (G : Hp) (w : Addr → Option Lab) (H : Hp) (e : Ex) (od : Option Addr) (H' : Hp) : Prop :=
  ∃ G', wAfter G w H G' H' ∧ (match e.a with | none => od = none | some d => ∃ dx v, od = some dx ∧ H dx = none ∧ G' dx = some (.xd [("at", v)]) ∧ Rep G' d v)
def spOf {A R : Type} (ec : Nat → Addr) (ea : A → List T) (mir : A → Res R) (er : R → T) (eo : R → List (Option T)) : Sp := fun vs H Q E =>
  ∃ (a : A) (G : Hp) (w : Addr → Option Lab), Same G H ∧ (∀ x p, w x = some p → G x = none ∧ ∃ o, H x = some o) ∧ vs.length = (ea a).length ∧ (∀ k t, (ea a)[k]? = some t → ∃ u, vs[k]? = some u ∧ Own G H w [0, k] t u) ∧
    mir a ≠ .fail ∧ (∀ r v H', mir a = .ok r → PostOk G w H (er r) (eo r) v vs H' → Q v H') ∧ (∀ e od H', mir a = .err e → ErrQ G w H e od H' → E (.ref (ec e.k)) od H')

def treeAt (s : State) : TM → Option T
  | .own t => some t
  | .ali i => match s[i]? with | some x => x | none => none
def putOuts : State → List TM → List (Option T) → State
  | s, .ali i :: r, o :: q => putOuts (s.set i o) r q
  | s, .ali i :: r, [] => putOuts (s.set i none) r []
  | s, .own _ :: r, q => putOuts s r q.tail
  | s, [], _ => s
def aIdx (i : Nat) : List TM → Option Nat
  | [] => none
  | .ali j :: r => if j = i then some 0 else (aIdx i r).map (· + 1)
  | .own _ :: r => (aIdx i r).map (· + 1)
def aliNd : List TM → Bool
  | [] => true
  | .ali j :: r => (aIdx j r).isNone && aliNd r
  | .own _ :: r => aliNd r
theorem aIdx_get {i : Nat} : ∀ {tms : List TM} {k : Nat}, aIdx i tms = some k → tms[k]? = some (.ali i)
  | [], _, h => by simp [aIdx] at h
  | .ali j :: r, k, h => by
    unfold aIdx at h
    split at h
    · rename_i e; subst e; cases h; rfl
    · cases e : aIdx i r with
      | none => rw [e] at h; cases h
      | some k' => rw [e] at h; cases h; simpa using aIdx_get e
  | .own _ :: r, k, h => by
    unfold aIdx at h
    cases e : aIdx i r with
    | none => rw [e] at h; cases h
    | some k' => rw [e] at h; cases h; simpa using aIdx_get e
theorem aIdx_of {i : Nat} : ∀ {tms : List TM} {k : Nat}, aliNd tms = true → tms[k]? = some (.ali i) → aIdx i tms = some k
  | [], _, _, h => by simp at h
  | .ali j :: r, 0, nd, h => by simp at h; subst h; simp [aIdx]
  | .ali j :: r, k + 1, nd, h => by
    simp only [aliNd, Bool.and_eq_true] at nd
    have e := aIdx_of (k := k) nd.2 (by simpa using h)
    have : ¬ j = i := fun z => by subst z; rw [e] at nd; simp at nd
    simp [aIdx, this, e]
  | .own _ :: r, 0, nd, h => by simp at h
  | .own _ :: r, k + 1, nd, h => by
    have e := aIdx_of (tms := r) (k := k) (by simpa [aliNd] using nd) (by simpa using h)
    simp [aIdx, e]
theorem putOuts_len : ∀ (tms : List TM) (s : State) (q : List (Option T)), (putOuts s tms q).length = s.length
  | [], s, _ => by cases s <;> rfl
  | .ali i :: r, s, [] => by rw [putOuts, putOuts_len r]; simp
  | .ali i :: r, s, o :: q => by rw [putOuts, putOuts_len r]; simp
  | .own _ :: r, s, q => by rw [putOuts, putOuts_len r]
theorem putOuts_none : ∀ (tms : List TM) (s : State) (q : List (Option T)) (i : Nat), aIdx i tms = none → (putOuts s tms q)[i]? = s[i]?
  | [], s, _, i, _ => by cases s <;> rfl
  | .ali j :: r, s, q, i, h => by
    unfold aIdx at h
    split at h
    · cases h
    · rename_i hj
      have h' : aIdx i r = none := by simpa using h
      cases q with
      | nil => rw [putOuts, putOuts_none r _ _ i h', List.getElem?_set_ne hj]
      | cons o q => rw [putOuts, putOuts_none r _ _ i h', List.getElem?_set_ne hj]
  | .own _ :: r, s, q, i, h => by
    have h' : aIdx i r = none := by simpa [aIdx] using h
    rw [putOuts, putOuts_none r _ _ i h']
theorem putOuts_some : ∀ (tms : List TM) (s : State) (q : List (Option T)) (i k : Nat) (t : T), aliNd tms = true → aIdx i tms = some k → (putOuts s tms q)[i]? = some (some t) → q[k]? = some (some t)
  | [], s, _, i, k, t, _, h, _ => by simp [aIdx] at h
  | .ali j :: r, s, q, i, k, t, nd, h, e => by
    simp only [aliNd, Bool.and_eq_true] at nd
    unfold aIdx at h
    split at h
    · rename_i hj
      subst hj
      cases h
      have hn : aIdx j r = none := by simpa using nd.1
      cases q with
      | nil =>
        rw [putOuts, putOuts_none r _ _ j hn, List.getElem?_set] at e
        simp at e
      | cons o q =>
        rw [putOuts, putOuts_none r _ _ j hn, List.getElem?_set] at e
        simp at e
        simpa using e.2
    · cases e2 : aIdx i r with
      | none => rw [e2] at h; cases h
      | some k' =>
        rw [e2] at h; cases h
        cases q with
        | nil =>
          rw [putOuts] at e
          have := putOuts_some r _ _ i k' t nd.2 e2 e
          simp at this
        | cons o q =>
          rw [putOuts] at e
          have := putOuts_some r _ _ i k' t nd.2 e2 e
          simpa using this
  | .own _ :: r, s, q, i, k, t, nd, h, e => by
    unfold aIdx at h
    cases e2 : aIdx i r with
    | none => rw [e2] at h; cases h
    | some k' =>
      rw [e2] at h; cases h
      rw [putOuts] at e
      have := putOuts_some r _ _ i k' t (by simpa [aliNd] using nd) e2 e
      cases q with
      | nil => simp at this
      | cons o q => simpa using this
/-- the arguments among the temporaries -/
theorem Tms.args {G H : Hp} {ω : Addr → Option Lab} {σ : St} : ∀ (vs : List V) (tms : List TM) (tmp : Tmp), vs.length = tms.length → Tms G H ω σ (pushes vs tms tmp) →
    Tms G H ω σ tmp ∧ ∀ k tm, tms[k]? = some tm → ∃ v, vs[k]? = some v ∧ TmOk G H ω σ [1, tmp.length + k] tm v
  | [], [], tmp, _, h => ⟨h, fun k tm e => by simp at e⟩
  | v :: vs, tm :: tms, tmp, hl, h => by
    obtain ⟨⟨a, b⟩, c⟩ := Tms.args vs tms ((v, tm) :: tmp) (by simpa using hl) h
    refine ⟨b, fun k u e => ?_⟩
    cases k with
    | zero => simp at e; subst e; exact ⟨v, rfl, a⟩
    | succ k =>
      obtain ⟨w, e1, e2⟩ := c k u (by simpa using e)
      refine ⟨w, by simpa using e1, ?_⟩
      rw [List.length_cons] at e2
      rwa [show tmp.length + (k + 1) = tmp.length + 1 + k by omega]
  | [], _ :: _, _, hl, _ => by simp at hl
  | _ :: _, [], _, hl, _ => by simp at hl
def psi (n : Nat) (tms : List TM) : Lab → Option Lab
  | 1 :: j :: x => if n ≤ j ∧ j < n + tms.length then some (0 :: (j - n) :: x) else none
  | 0 :: i :: x => (aIdx i tms).map fun k => 0 :: k :: x
  | _ => none
def chi (n : Nat) (tms : List TM) : Lab → Option Lab
  | 2 :: x => some (1 :: n :: x)
  | 0 :: k :: x => match tms[k]? with | some (.ali i) => some (0 :: i :: x) | _ => none
  | _ => none
def wBack (ω ω' : Addr → Option Lab) (n : Nat) (tms : List TM) : Addr → Option Lab := fun a => match ω a with
  | some lab => if (psi n tms lab).isSome = true then (ω' a).bind (chi n tms) else some lab
  | none => (ω' a).bind (chi n tms)
theorem wAfter.errP {F : Fc} {G H H' G' : Hp} {ω wc : Addr → Option Lab} {tmp : Tmp} {s : State} {σ : St} (h : Hd F G ω tmp s σ H) (hc : ∀ a, (wc a).isSome = true → (ω a).isSome = true) (p : wAfter G wc H G' H') :
    Same F.G0 G' ∧ Same G' H' ∧ (∀ a o, G' a = some o → F.G0 a = some o ∨ F.H0 a = none ∨ (F.w0 a).isSome = true) ∧ (∀ a o, F.H0 a = some o → F.w0 a = none → H' a = some o) ∧ (∀ a o, F.H0 a = some o → ∃ o', H' a = some o') := by
  obtain ⟨p1, p2, p3, p4, p5⟩ := p
  refine ⟨h.g0.trans p1, p2, fun a o e => ?_, fun a o e w => ?_, fun a o e => ?_⟩
  · rcases p3 a o e with q | q | q
    · exact h.gn a o q
    · exact .inr (.inl (h.new q))
    · obtain ⟨lab, hl⟩ := Option.isSome_iff_exists.mp (hc a q)
      exact .inr (h.wg a lab hl).2.2
  · refine p4 a o (h.fr a o e w) ?_
    cases q : wc a with
    | none => rfl
    | some lab =>
      obtain ⟨lab', hl⟩ := Option.isSome_iff_exists.mp (hc a (by rw [q]; rfl))
      rcases (h.wg a lab' hl).2.2 with z | z
      · rw [e] at z; cases z
      · rw [w] at z; cases z
  · obtain ⟨o', e'⟩ := h.ex a o e
    exact p5 a o' e'
theorem call_core {A R R' : Type} {ec : Nat → Addr} {ea : A → List T} {mir : A → Res R'} {er : R' → T} {eo : R' → List (Option T)} {F : Fc} {tmp : Tmp} {s1 : State} {m : Res R} {K : Rs R} {E : XK} {σ : St} {Q : VK} {tms : List TM} {vs : List V} {H1 : Hp} (hec : F.ec = ec) (hE : (∀ c d H', F.E c d H' → E c d H') ∨ ∀ a e, mir a ≠ .err e)
    (nf : m ≠ .fail) (eo' : EOk F m) (q : ∀ tm s' v H', K tm s' m → Holds F ((v, tm) :: tmp) s' σ H' → Q v H') (hx : ∃ (a : A) (k : R' → Res R), m = rb (mir a) k ∧ tms.map (treeAt s1) = (ea a).map some ∧ aliNd tms = true ∧ ∀ r, K (.own (er r)) (putOuts s1 tms (eo r)) (k r))
    (hl : vs.length = tms.length) (h1 : Holds F (pushes vs tms tmp) s1 σ H1) : spOf ec ea mir er eo (vs ++ []) H1 Q E := by
  obtain ⟨a, k, em, ht, nd, hk⟩ := hx
  obtain ⟨G, ω, h1⟩ := h1
  obtain ⟨ht0, hargs⟩ := Tms.args vs tms tmp hl h1.tm
  have hlen : tms.length = (ea a).length := by simpa using congrArg List.length ht
  rw [List.append_nil]
  have hwc : ∀ x, ((rl ω (psi tmp.length tms)) x).isSome = true → (ω x).isSome = true := fun x hx => by
    obtain ⟨lab, e⟩ := Option.isSome_iff_exists.mp hx
    obtain ⟨p, e1, _⟩ := rl_some e
    rw [e1]; rfl
  have cases := rb_cases (by rw [← em]; exact nf : rb (mir a) k ≠ .fail)
  refine ⟨a, G, rl ω (psi tmp.length tms), h1.gH, fun x p e => ?_, by rw [hl, hlen], fun j u e => ?_, fun z => ?_, fun r v H' er' po => ?_, fun e od H' ee po => ?_⟩
  · obtain ⟨p', e1, _⟩ := rl_some e
    exact ⟨(h1.wg x p' e1).1, (h1.wg x p' e1).2.1⟩
  · have hj : j < tms.length := by rw [hlen]; exact (List.getElem?_eq_some_iff.mp e).1
    have e2 : (tms.map (treeAt s1))[j]? = some (some u) := by rw [ht, List.getElem?_map, e]; rfl
    rw [List.getElem?_map] at e2
    cases e3 : tms[j]? with
    | none => rw [e3] at e2; cases e2
    | some tm =>
      rw [e3] at e2
      have e4 : treeAt s1 tm = some u := by simpa using e2
      obtain ⟨v, ev, ok⟩ := hargs j tm e3
      refine ⟨v, ev, ?_⟩
      cases tm with
      | own t' =>
        cases e4
        exact Own.rl ok fun x => by simp [psi, hj]
      | ali i =>
        have es : s1[i]? = some (some u) := by
          cases e5 : s1[i]? with
          | none => simp [treeAt, e5] at e4
          | some x => simp [treeAt, e5] at e4; rw [e4]
        obtain ⟨v', a1, a2⟩ := h1.sl i u es
        have : v' = v := by
          have ok' : σ[i]? = some (some v) := ok
          rw [ok'] at a1; cases a1; rfl
        subst this
        exact Own.rl a2 fun x => by simp [psi, aIdx_of nd e3]
  · rcases cases with ⟨b, e1, _⟩ | ⟨b, e1, _⟩ <;> (rw [z] at e1; cases e1)
  · have em' : m = k r := by rw [em, er']; rfl
    obtain ⟨G', ω', pa, pw, pr, pouts⟩ := po
    obtain ⟨f1, f2, f3, f4, f5⟩ := wAfter.errP h1 hwc pa
    obtain ⟨p1, p2, p3, p4, p5⟩ := pa
    -- who was lent
    have lent : ∀ x lab, ω x = some lab → (psi tmp.length tms lab).isSome = false → ω' x = none := fun x lab e1 e2 => by
      cases e3 : ω' x with
      | none => rfl
      | some l2 =>
        rcases (pw x l2 e3).2.2 with z | z
        · obtain ⟨o, ho⟩ := (h1.wg x lab e1).2.1
          rw [ho] at z; cases z
        · unfold rl at z
          rw [e1] at z
          rw [show ((some lab).bind (psi tmp.length tms)) = psi tmp.length tms lab from rfl, e2] at z
          cases z
    have back : ∀ x l2 l3, ω' x = some l2 → chi tmp.length tms l2 = some l3 → wBack ω ω' tmp.length tms x = some l3 := fun x l2 l3 e1 e2 => by
      unfold wBack
      cases e3 : ω x with
      | none => simp only [e1]; exact e2
      | some lab =>
        cases e4 : (psi tmp.length tms lab).isSome with
        | true => simp only [e4, if_true, e1]; exact e2
        | false =>
          rw [lent x lab e3 e4] at e1
          cases e1
    have kept : ∀ x lab, ω x = some lab → psi tmp.length tms lab = none → H' x = H1 x ∧ wBack ω ω' tmp.length tms x = some lab := fun x lab e1 e2 => by
      obtain ⟨o, ho⟩ := (h1.wg x lab e1).2.1
      refine ⟨?_, ?_⟩
      · rw [ho]
        exact p4 x o ho (by unfold rl; rw [e1]; exact e2)
      · unfold wBack
        rw [e1]
        simp [e2]
    refine q (.own (er r)) (putOuts s1 tms (eo r)) v H' (by rw [em']; exact hk r) ⟨G', wBack ω ω' tmp.length tms, f1, f2, f3, f4, f5, fun x p e => ?_, ?_, fun i u e => ?_, ⟨?_, ?_⟩, h1.pn⟩
    · unfold wBack at e
      have fromNew : (ω' x).bind (chi tmp.length tms) = some p → G' x = none ∧ (∃ o, H' x = some o) ∧ (F.H0 x = none ∨ (F.w0 x).isSome = true) := fun e => by
        cases e3 : ω' x with
        | none => rw [e3] at e; cases e
        | some l2 =>
          obtain ⟨w1, w2, w3⟩ := pw x l2 e3
          refine ⟨w1, w2, ?_⟩
          rcases w3 with z | z
          · exact .inl (h1.new z)
          · obtain ⟨lab, hl2⟩ := Option.isSome_iff_exists.mp (hwc x z)
            exact (h1.wg x lab hl2).2.2
      split at e
      · rename_i lab e1
        split at e
        · exact fromNew e
        · rename_i hn
          have hn' : psi tmp.length tms lab = none := by simpa using hn
          cases e
          obtain ⟨g1, ⟨o, ho⟩, g3⟩ := h1.wg x _ e1
          refine ⟨?_, ⟨o, ?_⟩, g3⟩
          · cases e5 : G' x with
            | none => rfl
            | some o2 =>
              rcases p3 x o2 e5 with z | z | z
              · rw [g1] at z; cases z
              · rw [ho] at z; cases z
              · unfold rl at z
                rw [e1] at z
                rw [show ((some p).bind (psi tmp.length tms)) = psi tmp.length tms p from rfl, hn'] at z
                cases z
          · rw [(kept x p e1 hn').1]; exact ho
      · exact fromNew e
    · rw [putOuts_len]; exact h1.len
    · cases e1 : aIdx i tms with
      | none =>
        rw [putOuts_none tms s1 _ i e1] at e
        obtain ⟨v', a1, a2⟩ := h1.sl i u e
        exact ⟨v', a1, Own.move p1 _ _ u v' (fun x y w => kept x _ w (by simp [psi, e1])) a2⟩
      | some j =>
        obtain ⟨w, w1, w2⟩ := pouts j u (putOuts_some tms s1 _ i j u nd e1 e)
        obtain ⟨v', a1, a2⟩ := hargs j _ (aIdx_get e1)
        rw [w1] at a1
        cases a1
        exact ⟨w, a2, Own.move (Same.refl _) _ _ u w (fun x y z => ⟨rfl, back x _ _ z (by simp [chi, aIdx_get e1])⟩) w2⟩
    · exact Own.move (Same.refl _) _ _ _ v (fun x y z => ⟨rfl, back x _ _ z (by simp [chi])⟩) pr
    · exact Tms.move p1 tmp (fun j x y hj w => kept x _ w (by
        have : ¬ (tmp.length ≤ j ∧ j < tmp.length + tms.length) := by omega
        simp [psi, this])) ht0
  · have em' : m = .err e := by rw [em, ee]; rfl
    obtain ⟨G', pa, pe⟩ := po
    obtain ⟨f1, f2, f3, f4, f5⟩ := wAfter.errP h1 hwc pa
    rcases hE with hE | hE
    case inr => exact absurd ee (hE a e)
    refine hE _ _ _ ?_
    rw [← hec]
    refine eo' e em' od H' ⟨G', f1, f2, f3, f4, f5, ?_⟩
    cases e6 : e.a with
    | none => rw [e6] at pe; exact pe
    | some d =>
      rw [e6] at pe
      obtain ⟨dx, v, b1, b2, b3, b4⟩ := pe
      exact ⟨dx, v, b1, h1.new b2, b3, b4⟩
theorem rd_callG {A R R' : Type} {ec : Nat → Addr} {ea : A → List T} {mir : A → Res R'} {er : R' → T} {eo : R' → List (Option T)} {F : Fc} {tmp : Tmp} {s : State} {m : Res R} {K : Rs R} {t : TA} {E : XK} (hec : F.ec = ec) (hE : (∀ c d H', F.E c d H' → E c d H') ∨ ∀ a e, mir a ≠ .err e)
    (h : RA F tmp s m t (fun tms s1 m1 => ∃ (a : A) (k : R' → Res R), m1 = rb (mir a) k ∧ tms.map (treeAt s1) = (ea a).map some ∧ aliNd tms = true ∧ ∀ r, K (.own (er r)) (putOuts s1 tms (eo r)) (k r))) :
    RD F tmp s (tCall (spOf ec ea mir er eo) [] E t) m K := fun σ H Q hh nf eo' q => h σ H _ hh nf eo' fun tms s1 vs H1 hx hl h1 => call_core hec hE nf eo' q hx hl h1
theorem rd_call {A R R' : Type} {ec : Nat → Addr} {ea : A → List T} {mir : A → Res R'} {er : R' → T} {eo : R' → List (Option T)} {F : Fc} {tmp : Tmp} {s : State} {m : Res R} {K : Rs R} {t : TA} {E : XK} (hec : F.ec = ec) (hE : F.E = E)
    (h : RA F tmp s m t (fun tms s1 m1 => ∃ (a : A) (k : R' → Res R), m1 = rb (mir a) k ∧ tms.map (treeAt s1) = (ea a).map some ∧ aliNd tms = true ∧ ∀ r, K (.own (er r)) (putOuts s1 tms (eo r)) (k r))) :
    RD F tmp s (tCall (spOf ec ea mir er eo) [] E t) m K := rd_callG hec (.inl fun _ _ _ z => hE ▸ z) h
end VL

namespace VL
open PySem L2
variable [EC]

/-! an owned object is written -/
section
variable {F : Fc} {G H H' : Hp} {ω : Addr → Option Lab} {tmp : Tmp} {s : State} {σ : St} {v : V} {t : T} {d : D} {a : Addr} {p : Lab}
theorem Hd.wr (h : Hd F G ω tmp s σ H) (hw : ω a = some p) (o' : HO) {s' : State} {tmp' : Tmp} (hl : s'.length = s.length)
    (hs : ∀ i t, s'[i]? = some (some t) → ∃ v, σ[i]? = some (some v) ∧ Own G (upd H a o') ω [0, i] t v) (ht : Tms G (upd H a o') ω σ tmp') : Hd F G ω tmp' s' σ (upd H a o') := by
  obtain ⟨g1, ⟨o, ho⟩, g3⟩ := h.wg a p hw
  refine ⟨h.g0, fun b u e => ?_, h.gn, fun b u e w => ?_, fun b u e => ?_, fun b q e => ?_, h.len.trans hl.symm, hs, ht, h.pn⟩
  · have : b ≠ a := fun z => by subst z; rw [g1] at e; cases e
    rw [upd_ne this]; exact h.gH b u e
  · have : b ≠ a := fun z => by
      subst z
      rcases g3 with z | z
      · rw [e] at z; cases z
      · rw [w] at z; cases z
    rw [upd_ne this]; exact h.fr b u e w
  · by_cases hb : b = a
    · subst hb; exact ⟨o', upd_same⟩
    · rw [upd_ne hb]; exact h.ex b u e
  · obtain ⟨q1, ⟨u, q2⟩, q3⟩ := h.wg b q e
    refine ⟨q1, ?_, q3⟩
    by_cases hb : b = a
    · subst hb; exact ⟨o', upd_same⟩
    · exact ⟨u, by rw [upd_ne hb]; exact q2⟩
theorem Own.wrO {o' : HO} {q : Lab} (hw : ω a = some p) (n : pre q p = false) (h : Own G H ω q t v) : Own G (upd H a o') ω q t v :=
  Own.move (Same.refl _) q q t v (fun b x e => ⟨upd_ne (fun z => by subst z; rw [hw] at e; cases e; rw [pre_app] at n; cases n), e⟩) h
theorem Tms.wrO {o' : HO} (hw : ω a = some p) (tmp : Tmp) (n : ∀ j, j < tmp.length → pre [1, j] p = false) (h : Tms G H ω σ tmp) : Tms G (upd H a o') ω σ tmp :=
  Tms.move (Same.refl _) tmp (fun j b x hj e => ⟨upd_ne (fun z => by subst z; rw [hw] at e; cases e; have := n j hj; rw [pre_app] at this; cases this), e⟩) h
/-- an owned list in slot i -/
theorem Holds.wrSlot (h : Holds F tmp s σ H) {i : Nat} {ds : List D} (hi : s[i]? = some (some (.l ds))) :
    ∃ a vs, σ[i]? = some (some (.ref a)) ∧ H a = some (.lst vs) ∧ vs.length = ds.length ∧ ds.length ≤ sizeLine ∧ (∀ (k : Nat) (d : D), ds[k]? = some d → ∃ v, vs[k]? = some v ∧ ∀ {x : V}, x = v → Holds F ((x, .own (.f d)) :: tmp) s σ H) ∧
      ∀ (ds' : List D) (vs' : List V), ds'.length ≤ sizeLine → (∀ G, Same F.G0 G → Same G H → Reps G ds vs → (∀ x r, tmp = x :: r → ∀ d, x.2 = .own (.f d) → Rep G d x.1) → Reps G ds' vs') → Holds F tmp (s.set i (some (.l ds'))) σ (upd H a (.lst vs')) := by
  obtain ⟨G, ω, h⟩ := h
  obtain ⟨v, e1, a, vs, rfl, ha, hw, z, r⟩ := h.sl i _ hi
  refine ⟨a, vs, e1, ha, r.length.symm, z, fun k d e => ?_, fun ds' vs' hz hr => ⟨G, ω, h.wr hw (.lst vs') (by simp) (fun j u e => ?_) (Tms.wrO hw tmp (fun j hj => by simp [pre]) h.tm)⟩⟩
  · obtain ⟨v, e2, e3⟩ := r.get e
    exact ⟨v, e2, fun {x} ex => ⟨G, ω, h.pushF (by rw [ex]; exact e3)⟩⟩
  · have hil : i < s.length := (List.getElem?_eq_some_iff.mp hi).1
    by_cases hj : i = j
    · subst hj
      rw [List.getElem?_set_self hil] at e
      cases e
      refine ⟨_, e1, a, vs', rfl, upd_same, hw, hz, hr G h.g0 h.gH r fun x r2 et d ed => ?_⟩
      have ht := h.tm
      rw [et] at ht
      have ht1 := ht.1
      rw [ed] at ht1
      exact ht1
    · rw [List.getElem?_set_ne hj] at e
      obtain ⟨v', b1, b2⟩ := h.sl j u e
      exact ⟨v', b1, Own.wrO hw (by simp [pre]; exact fun z => hj z.symm) b2⟩
/-- an owned list among the temporaries, with what comes to it on top -/
theorem Holds.wrTmp {D' : Addr} {acc : List D} {y : V} (h : Holds F ((y, .own (.f d)) :: (.ref D', .own (.l acc)) :: tmp) s σ H) (hz : acc.length < sizeLine) :
    ∃ vs, H D' = some (.lst vs) ∧ vs.length = acc.length ∧ Holds F ((.ref D', .own (.l (acc ++ [d]))) :: tmp) s σ (upd H D' (.lst (vs ++ [y]))) := by
  obtain ⟨G, ω, h⟩ := h
  obtain ⟨hy, ⟨a, vs, e, ha, hw, z, r⟩, ht⟩ := h.tm
  cases e
  refine ⟨vs, ha, r.length.symm, G, ω, h.wr hw _ rfl (fun j u e => ?_) ⟨⟨D', vs ++ [y], rfl, upd_same, hw, by simp; omega, r.append ⟨y, [], rfl, hy, rfl⟩⟩, Tms.wrO hw tmp (fun j hj => ?_) ht⟩⟩
  · obtain ⟨v', b1, b2⟩ := h.sl j u e
    exact ⟨v', b1, Own.wrO hw (by simp [pre]) b2⟩
  · have : ¬ j = tmp.length := by omega
    simp [pre, this]
end

/-! loops -/
inductive Fl (Z R : Type) where
  | nx (z : Z) | rt (r : R)
def forL {Z R : Type} : List D → Z → (Z → D → Res (Fl Z R)) → Res (Fl Z R)
  | [], z, _ => .ok (.nx z)
  | d :: r, z, f => rb (f z d) fun o => match o with | .nx z' => forL r z' f | .rt x => .ok (.rt x)
def forN {Z : Type} : List D → Z → (Z → D → Res Z) → Res Z
  | [], z, _ => .ok z
  | d :: r, z, f => rb (f z d) fun z' => forN r z' f
def whileF {Z R : Type} : Nat → Z → (Z → Res Bool) → (Z → Res (Fl Z R)) → Res (Fl Z R)
  | 0, _, _, _ => .fail
  | n + 1, z, c, b => rb (c z) fun t => if t = true then rb (b z) fun o => match o with | .nx z' => whileF n z' c b | .rt x => .ok (.rt x) else .ok (.nx z)
def whileN {Z : Type} : Nat → Z → (Z → Res Bool) → (Z → Res Z) → Res Z
  | 0, _, _, _ => .fail
  | n + 1, z, c, b => rb (c z) fun t => if t = true then rb (b z) fun z' => whileN n z' c b else .ok z
/-- a comprehension that changes what stands outside -/
def fmS {Z : Type} : List D → Z → (Z → D → Res (Option D × Z)) → Res (List D × Z)
  | [], z, _ => .ok ([], z)
  | d :: r, z, f => rb (f z d) fun o => rb (fmS r o.2 f) fun q => .ok (match o.1 with | some y => y :: q.1 | none => q.1, q.2)
def fmR : List D → (D → Res (Option D)) → Res (List D)
  | [], _ => .ok []
  | d :: r, f => rb (f d) fun o => rb (fmR r f) fun q => .ok (match o with | some y => y :: q | none => q)
structure ItOk (F : Fc) (tmp0 tmp : Tmp) (P : State → Prop) (pb : State → State) (J : It) (ds : List D) : Prop where
  bk : ∀ (pre : Tmp) s σ H, P s → Holds F (pre ++ tmp) s σ H → Holds F (pre ++ tmp0) (pb s) σ H
  sz : ds.length ≤ sizeLine
  go : ∀ s σ H i, P s → Holds F tmp s σ H → i < ds.length → J.go i H
  stop : ∀ s σ H, P s → Holds F tmp s σ H → J.stop ds.length H
  yld : ∀ (pre : Tmp) s σ H (i : Nat) (d : D) x H', P s → Holds F (pre ++ tmp) s σ H → ds[i]? = some d → J.yld i H x H' → Holds F ((x, .own (.f d)) :: (pre ++ tmp)) s σ H'
section
variable {R : Type} (F : Fc) (tmp : Tmp) (s : State) (m : Res R)
def RI (wi : TI) (K : Tmp → (State → Prop) → (State → State) → List D → State → Res R → Prop) : Prop :=
  ∀ σ H Q, Holds F tmp s σ H → m ≠ .fail → EOk F m → (∀ ex P pb ds s' J H', K ex P pb ds s' m → ItOk F tmp (ex ++ tmp) P pb J ds → Holds F (ex ++ tmp) s' σ H' → Q J H') → wi σ H Q
def RG (is : List Nat) (g : TG) (d : D) (K : State → Res R → Prop) : Prop :=
  ∀ σ H v Q, Holds F ((v, .own (.f d)) :: tmp) s σ H → m ≠ .fail → EOk F m → (∀ s' σ' H', K s' m → Holds F tmp s' σ' H' → (∀ j, j ∉ is → σ'[j]? = σ[j]?) → σ'.length = σ.length → Q σ' H') → g v σ H Q
end
theorem Holds.popMany {F : Fc} {s : State} {σ : St} {H : Hp} {tmp : Tmp} : ∀ (ex : Tmp), Holds F (ex ++ tmp) s σ H → Holds F tmp s σ H
  | [], h => h
  | _ :: r, h => Holds.popMany r h.pop
section
variable {R : Type} {F : Fc} {tmp : Tmp} {s : State} {m : Res R} {K : Rs R} {N : Rn R} {Rt : Rr R}
theorem rs_for {Z R' : Type} {wi : TI} {g : TG} {tb : TS} (is : List Nat) (h : RI F tmp s m wi (fun ex P pb ds s1 m1 => ∃ (S : Z → State) (z0 : Z) (f : Z → D → Res (Fl Z R')) (k : Fl Z R' → Res R),
      m1 = rb (forL ds z0 f) k ∧ Sub s1 (S z0) ∧ (∀ z, P (S z)) ∧
      (∀ z d, RG F (ex ++ tmp) (S z) (f z d) is g d (fun s2 m2 => RS F (ex ++ tmp) s2 m2 tb (fun s3 m3 => ∃ z', m3 = .ok (.nx z') ∧ Sub s3 (S z')) (fun t s3 m3 => ∃ r, m3 = .ok (.rt r) ∧ Rt t s3 (k (.rt r))))) ∧
      ∀ z, N (pb (S z)) (k (.nx z)))) : RS F tmp s m (tFor wi g tb) N Rt := fun σ H De hh nf eo nx rt => by
  refine h σ H _ hh nf eo fun ex P pb ds s1 J H1 ⟨S, z0, f, k, em, sb, hP, body, fin⟩ it h1 => ?_
  refine ⟨fun i n σ' H' => ∃ z, i + n = ds.length ∧ Holds F (ex ++ tmp) (S z) σ' H' ∧ rb (forL (ds.drop i) z f) k = m, ⟨ds.length, z0, by simp, h1.sub sb, by rw [List.drop_zero]; exact em.symm⟩, ?_⟩
  rintro i n σ' H' ⟨z, hin, hz, ez⟩
  cases n with
  | zero =>
    have hi : i = ds.length := by omega
    subst hi
    refine .inl ⟨it.stop _ _ _ (hP z) hz, ?_⟩
    rw [List.drop_length] at ez
    refine nx (pb (S z)) σ' H' ?_ (it.bk [] _ _ _ (hP z) hz)
    rw [← ez]
    exact fin z
  | succ n =>
    have hi : i < ds.length := by omega
    refine .inr ⟨it.go _ _ _ i (hP z) hz hi, _, fun σ2 H2 w => ⟨n, by omega, w⟩, fun x H2 y => ?_⟩
    have hd : ds[i]? = some ds[i] := List.getElem?_eq_getElem hi
    have h2 := it.yld [] _ _ _ i _ x H2 (hP z) hz hd y
    rw [List.drop_eq_getElem_cons hi] at ez
    have ez' : rb (rb (f z ds[i]) fun o => match o with | .nx z' => forL (ds.drop (i + 1)) z' f | .rt x => .ok (.rt x)) k = m := ez
    have nf' : f z ds[i] ≠ .fail := fun q => nf (by rw [← ez', q]; rfl)
    have eo' : EOk F (f z ds[i]) := eo.of fun e he => by rw [← ez', he]; rfl
    refine body z ds[i] σ' H2 x _ h2 nf' eo' fun s3 σ3 H3 hb h3 _ _ => ?_
    refine hb σ3 H3 _ h3 nf' eo' (fun s4 σ4 H4 ⟨z', e1, q⟩ h4 => ?_) fun t s4 v σ4 H4 ⟨r, e1, q⟩ h4 => ?_
    · refine ⟨z', by omega, h4.sub q, ?_⟩
      rw [← ez', e1]; rfl
    · refine rt t s4 v σ4 H4 ?_ h4
      have : m = k (.rt r) := by rw [← ez', e1]; rfl
      rw [this]; exact q
theorem rs_forN {Z : Type} {wi : TI} {g : TG} {tb : TS} (is : List Nat) (h : RI F tmp s m wi (fun ex P pb ds s1 m1 => ∃ (S : Z → State) (z0 : Z) (f : Z → D → Res Z) (k : Z → Res R),
      m1 = rb (forN ds z0 f) k ∧ Sub s1 (S z0) ∧ (∀ z, P (S z)) ∧
      (∀ z d, RG F (ex ++ tmp) (S z) (f z d) is g d (fun s2 m2 => RS F (ex ++ tmp) s2 m2 tb (fun s3 m3 => ∃ z', m3 = .ok z' ∧ Sub s3 (S z')) (fun t s3 m3 => False))) ∧
      ∀ z, N (pb (S z)) (k z))) : RS F tmp s m (tFor wi g tb) N Rt := fun σ H De hh nf eo nx rt => by
  refine h σ H _ hh nf eo fun ex P pb ds s1 J H1 ⟨S, z0, f, k, em, sb, hP, body, fin⟩ it h1 => ?_
  refine ⟨fun i n σ' H' => ∃ z, i + n = ds.length ∧ Holds F (ex ++ tmp) (S z) σ' H' ∧ rb (forN (ds.drop i) z f) k = m, ⟨ds.length, z0, by simp, h1.sub sb, by rw [List.drop_zero]; exact em.symm⟩, ?_⟩
  rintro i n σ' H' ⟨z, hin, hz, ez⟩
  cases n with
  | zero =>
    have hi : i = ds.length := by omega
    subst hi
    refine .inl ⟨it.stop _ _ _ (hP z) hz, ?_⟩
    rw [List.drop_length] at ez
    refine nx (pb (S z)) σ' H' ?_ (it.bk [] _ _ _ (hP z) hz)
    rw [← ez]
    exact fin z
  | succ n =>
    have hi : i < ds.length := by omega
    refine .inr ⟨it.go _ _ _ i (hP z) hz hi, _, fun σ2 H2 w => ⟨n, by omega, w⟩, fun x H2 y => ?_⟩
    have hd : ds[i]? = some ds[i] := List.getElem?_eq_getElem hi
    have h2 := it.yld [] _ _ _ i _ x H2 (hP z) hz hd y
    rw [List.drop_eq_getElem_cons hi] at ez
    have ez' : rb (rb (f z ds[i]) fun z' => forN (ds.drop (i + 1)) z' f) k = m := ez
    have nf' : f z ds[i] ≠ .fail := fun q => nf (by rw [← ez', q]; rfl)
    have eo' : EOk F (f z ds[i]) := eo.of fun e he => by rw [← ez', he]; rfl
    refine body z ds[i] σ' H2 x _ h2 nf' eo' fun s3 σ3 H3 hb h3 _ _ => ?_
    refine hb σ3 H3 _ h3 nf' eo' (fun s4 σ4 H4 ⟨z', e1, q⟩ h4 => ?_) fun t s4 v σ4 H4 q h4 => q.elim
    refine ⟨z', by omega, h4.sub q, ?_⟩
    rw [← ez', e1]; rfl
theorem rs_while {Z R' : Type} {c : TT} {tb : TS} (n : Nat) (S : Z → State) (z0 : Z) (fc : Z → Res Bool) (f : Z → Res (Fl Z R')) (k : Fl Z R' → Res R) (em : m = rb (whileF n z0 fc f) k) (sb : Sub s (S z0))
    (hc : ∀ z, RT F tmp (S z) (fc z) c (fun b s2 m2 => m2 = .ok b ∧ Sub s2 (S z)))
    (hb : ∀ z, RS F tmp (S z) (f z) tb (fun s3 m3 => ∃ z', m3 = .ok (.nx z') ∧ Sub s3 (S z')) (fun t s3 m3 => ∃ r, m3 = .ok (.rt r) ∧ Rt t s3 (k (.rt r))))
    (fin : ∀ z, N (S z) (k (.nx z))) : RS F tmp s m (tWhile c tb) N Rt := fun σ H De hh nf eo nx rt => by
  refine ⟨fun n σ' H' => ∃ z, Holds F tmp (S z) σ' H' ∧ rb (whileF n z fc f) k = m, ⟨n, z0, hh.sub sb, em.symm⟩, ?_⟩
  rintro n σ' H' ⟨z, hz, ez⟩
  cases n with
  | zero => exact absurd ez.symm nf
  | succ n =>
    have ez' : rb (rb (fc z) fun t => if t = true then rb (f z) fun o => match o with | .nx z' => whileF n z' fc f | .rt x => .ok (.rt x) else .ok (.nx z)) k = m := ez
    have nf' : fc z ≠ .fail := fun q => nf (by rw [← ez', q]; rfl)
    refine hc z σ' H' _ hz nf' (eo.of fun e he => by rw [← ez', he]; rfl) fun b s2 H2 ⟨eb, sb2⟩ h2 => ?_
    rw [eb] at ez'
    cases b with
    | false =>
      simp only [Bool.false_eq_true, if_false]
      refine nx (S z) σ' H2 ?_ (h2.sub sb2)
      rw [← ez']; exact fin z
    | true =>
      simp only [if_true]
      have ez2 : rb (rb (f z) fun o => match o with | .nx z' => whileF n z' fc f | .rt x => .ok (.rt x)) k = m := ez'
      have nf2 : f z ≠ .fail := fun q => nf (by rw [← ez2, q]; rfl)
      refine ⟨_, fun σ3 H3 w => ⟨n, Nat.lt_succ_self n, w⟩, ?_⟩
      refine hb z σ' H2 _ (h2.sub sb2) nf2 (eo.of fun e he => by rw [← ez2, he]; rfl) (fun s4 σ4 H4 ⟨z', e1, q⟩ h4 => ?_) fun t s4 v σ4 H4 ⟨r, e1, q⟩ h4 => ?_
      · refine ⟨z', h4.sub q, ?_⟩
        rw [← ez2, e1]; rfl
      · refine rt t s4 v σ4 H4 ?_ h4
        have : m = k (.rt r) := by rw [← ez2, e1]; rfl
        rw [this]; exact q
theorem rs_whileN {Z : Type} {c : TT} {tb : TS} (n : Nat) (S : Z → State) (z0 : Z) (fc : Z → Res Bool) (f : Z → Res Z) (k : Z → Res R) (em : m = rb (whileN n z0 fc f) k) (sb : Sub s (S z0))
    (hc : ∀ z, RT F tmp (S z) (fc z) c (fun b s2 m2 => m2 = .ok b ∧ Sub s2 (S z)))
    (hb : ∀ z, RS F tmp (S z) (f z) tb (fun s3 m3 => ∃ z', m3 = .ok z' ∧ Sub s3 (S z')) (fun t s3 m3 => False))
    (fin : ∀ z, N (S z) (k z)) : RS F tmp s m (tWhile c tb) N Rt := fun σ H De hh nf eo nx rt => by
  refine ⟨fun n σ' H' => ∃ z, Holds F tmp (S z) σ' H' ∧ rb (whileN n z fc f) k = m, ⟨n, z0, hh.sub sb, em.symm⟩, ?_⟩
  rintro n σ' H' ⟨z, hz, ez⟩
  cases n with
  | zero => exact absurd ez.symm nf
  | succ n =>
    have ez' : rb (rb (fc z) fun t => if t = true then rb (f z) fun z' => whileN n z' fc f else .ok z) k = m := ez
    have nf' : fc z ≠ .fail := fun q => nf (by rw [← ez', q]; rfl)
    refine hc z σ' H' _ hz nf' (eo.of fun e he => by rw [← ez', he]; rfl) fun b s2 H2 ⟨eb, sb2⟩ h2 => ?_
    rw [eb] at ez'
    cases b with
    | false =>
      simp only [Bool.false_eq_true, if_false]
      refine nx (S z) σ' H2 ?_ (h2.sub sb2)
      rw [← ez']; exact fin z
    | true =>
      simp only [if_true]
      have ez2 : rb (rb (f z) fun z' => whileN n z' fc f) k = m := ez'
      have nf2 : f z ≠ .fail := fun q => nf (by rw [← ez2, q]; rfl)
      refine ⟨_, fun σ3 H3 w => ⟨n, Nat.lt_succ_self n, w⟩, ?_⟩
      refine hb z σ' H2 _ (h2.sub sb2) nf2 (eo.of fun e he => by rw [← ez2, he]; rfl) (fun s4 σ4 H4 ⟨z', e1, q⟩ h4 => ?_) fun t s4 v σ4 H4 q h4 => q.elim
      refine ⟨z', h4.sub q, ?_⟩
      rw [← ez2, e1]; rfl
/-! targets -/
theorem rg_name {i : Nat} {d : D} {K : State → Res R → Prop} (hi : i < s.length) (na : noAli i tmp = true) (hp : F.pv i = none) (k : K (s.set i (some (.f d))) m) : RG F tmp s m [i] (gName i) d K := fun σ H v Q hh nf eo q =>
  q _ _ H k (hh.store hi na hp) (fun j hj => by rw [List.getElem?_set_ne (fun z => hj (by simp [z]))]) (by simp)
end
end VL

namespace VL
open PySem L2
variable [EC]

/-! comprehensions -/
section
variable {F : Fc} {G H H' : Hp} {ω : Addr → Option Lab} {tmp : Tmp} {s : State} {σ : St} {v : V} {t : T} {d : D}
def phiUn (n n' : Nat) : Lab → Option Lab
  | 1 :: j :: x => if j = n' then some (1 :: n :: x) else if j < n then some (1 :: j :: x) else none
  | l => some l
theorem Tms.tail {G H : Hp} {ω : Addr → Option Lab} {σ : St} {tmp : Tmp} : ∀ (ex : Tmp), Tms G H ω σ (ex ++ tmp) → Tms G H ω σ tmp
  | [], h => h
  | _ :: r, h => Tms.tail r h.2
/-- what lay between is dropped -/
theorem Holds.under {ex : Tmp} (h : Holds F ((v, .own t) :: (ex ++ tmp)) s σ H) : Holds F ((v, .own t) :: tmp) s σ H := by
  obtain ⟨G, ω, h⟩ := h
  have hle : tmp.length ≤ (ex ++ tmp).length := by simp
  refine ⟨G, _, h.rl (phiUn tmp.length (ex ++ tmp).length) s σ _ h.len (fun j u e => ?_) ⟨?_, ?_⟩ h.pn⟩
  · obtain ⟨v', e1, e2⟩ := h.sl j u e
    exact ⟨v', e1, Own.rl e2 fun x => by simp [phiUn]⟩
  · exact Own.rl h.tm.1 fun x => by simp [phiUn]
  · refine Tms.rl tmp (fun j x hj => ?_) (Tms.tail ex h.tm.2)
    have : ¬ j = (ex ++ tmp).length := by omega
    have h2 : ¬ j = ex.length + tmp.length := by simpa using this
    simp [phiUn, h2, hj]
def noAlis (vs : List Nat) (tmp : Tmp) : Bool := vs.all fun i => noAli i tmp
theorem Holds.wiped {vs : List Nat} (h : Holds F tmp s σ H) (hs : ∀ i ∈ vs, s[i]? = some none) (na : noAlis vs tmp = true) (hp : ∀ i ∈ vs, F.pv i = none) : Holds F tmp s (wipe σ vs) H := by
  obtain ⟨G, ω, h⟩ := h
  refine ⟨G, ω, { h with len := by rw [wipe_length]; exact h.len, sl := fun i t e => ?_, tm := ?_, pn := fun k v e => ?_ }⟩
  · have : i ∉ vs := fun z => by rw [hs i z] at e; cases e
    obtain ⟨v, a, b⟩ := h.sl i t e
    exact ⟨v, by rw [wipe_out this]; exact a, b⟩
  · refine Tms.slots tmp (fun i hi => wipe_out fun z => ?_) h.tm
    have := List.all_eq_true.mp na i z
    rw [hi] at this; cases this
  · have : k ∉ vs := fun z => by rw [hp k z] at e; cases e
    rw [wipe_out this]; exact h.pn k v e
theorem Tms.unwipe {G H : Hp} {ω : Addr → Option Lab} {σ : St} {vs : List Nat} : ∀ (tmp : Tmp), Tms G H ω (wipe σ vs) tmp → Tms G H ω σ tmp
  | [], _ => trivial
  | (v, .own t) :: r, ⟨a, b⟩ => ⟨a, Tms.unwipe r b⟩
  | (v, .ali j) :: r, ⟨a, b⟩ => ⟨(wipe_some a).1, Tms.unwipe r b⟩
theorem Holds.unwipe {vs : List Nat} (h : Holds F tmp s (wipe σ vs) H) : Holds F tmp s σ H := by
  obtain ⟨G, ω, h⟩ := h
  refine ⟨G, ω, { h with len := by rw [← h.len, wipe_length], sl := fun i t e => ?_, tm := Tms.unwipe tmp h.tm, pn := fun k v e => (wipe_some (h.pn k v e)).1 }⟩
  obtain ⟨v, a, b⟩ := h.sl i t e
  exact ⟨v, (wipe_some a).1, b⟩
theorem wipe_congr {σ σ2 : St} {vs is : List Nat} (h : ∀ j, j ∉ is → σ2[j]? = (wipe σ vs)[j]?) (hi : ∀ i ∈ is, i ∈ vs) (hl : σ2.length = (wipe σ vs).length) : wipe σ2 vs = wipe σ vs := by
  refine List.ext_getElem? fun j => ?_
  by_cases hj : j ∈ vs
  · have e1 : (wipe σ2 vs).length = (wipe σ vs).length := by rw [wipe_length, hl]
    by_cases hl2 : j < (wipe σ2 vs).length
    · have n1 : ∀ (τ : St), j < (wipe τ vs).length → (wipe τ vs)[j]? = some none := fun τ hτ => by
        cases e : (wipe τ vs)[j]? with
        | none => rw [List.getElem?_eq_none_iff] at e; omega
        | some x =>
          cases x with
          | none => rfl
          | some v => exact absurd hj (wipe_some e).2
      rw [n1 σ2 hl2, n1 σ (by omega)]
    · rw [List.getElem?_eq_none (by omega), List.getElem?_eq_none (by omega)]
  · rw [wipe_out hj, h j fun z => hj (hi j z), wipe_out hj]
end
section
variable {R : Type} {F : Fc} {tmp : Tmp} {s : State} {m : Res R} {K : Rs R} {N : Rn R} {Rt : Rr R}
/-- an owned value, frozen at once -/
theorem rd_fz {te : TE} (h : RD F tmp s te m (fun tm s1 m1 => ∃ t, tm = .own t ∧ K (.own (.f t.er)) s1 m1)) : RD F tmp s te m K := fun σ H Q hh nf eo q =>
  h σ H Q hh nf eo fun tm s' v H' ⟨t, e, hk⟩ h1 => by
    subst e
    exact q _ _ v H' hk h1.frzTop
def lcBody {Z : Type} (F : Fc) (tmp : Tmp) (S : Z → State) (is : List Nat) (g : TG) (tt : TT) (te : TE) (m : Res (Option D × Z)) (z : Z) (d : D) : Prop :=
  RG F tmp (S z) m is g d (fun s2 m2 => RT F tmp s2 m2 tt (fun b s3 m3 => ∃ ma mb, m3 = (if b = true then ma else mb) ∧
    (b = true → RD F tmp s3 te ma (fun tm s4 m4 => ∃ y z', tm = .own (.f y) ∧ m4 = .ok (some y, z') ∧ Sub s4 (S z'))) ∧ (b = false → ∃ z', mb = .ok (none, z') ∧ Sub s3 (S z'))))
def accD (acc : List D) : Option D → List D
  | some y => acc ++ [y]
  | none => acc
theorem fmS_step {Z S : Type} {d : D} {r acc : List D} {z z' : Z} {f : Z → D → Res (Option D × Z)} {k : List D × Z → Res S} (o : Option D) (e : f z d = .ok (o, z')) :
    rb (rb (fmS (d :: r) z f) fun q => .ok (acc ++ q.1, q.2)) k = rb (rb (fmS r z' f) fun q => .ok (accD acc o ++ q.1, q.2)) k := by
  show rb (rb (rb (f z d) _) _) k = _
  rw [e]
  show rb (rb (rb (fmS r z' f) _) _) k = _
  cases fmS r z' f with
  | ok q => cases o <;> simp [rb, accD]
  | err e => rfl
  | fail => rfl
theorem rd_lc {Z : Type} {wi : TI} {g : TG} {tt : TT} {te : TE} {vs : List Nat} (is : List Nat) (hv : ∀ i ∈ is, i ∈ vs) (hp : ∀ i ∈ vs, F.pv i = none)
    (h : RI F tmp s m wi (fun ex P pb ds s1 m1 => ∃ (S : Z → State) (z0 : Z) (f : Z → D → Res (Option D × Z)) (k : List D × Z → Res R), m1 = rb (fmS ds z0 f) k ∧ Sub s1 (S z0) ∧ (∀ z, P (S z)) ∧ (∀ z, ∀ i ∈ vs, (S z)[i]? = some none) ∧ noAlis vs (ex ++ tmp) = true ∧
      (∀ z d lv acc, lcBody F ((lv, .own (.l acc)) :: (ex ++ tmp)) S is g tt te (f z d) z d) ∧ ∀ p : List D × Z, K (.own (.l p.1)) (pb (S p.2)) (k p))) : RD F tmp s (tLc wi g tt te vs) m K := fun σ H Q hh nf eo q => by
  refine h σ H _ hh nf eo fun ex P pb ds s1 J H1 ⟨S, z0, f, k, em, sb, hP, hS, na, body, fin⟩ it h1 => ?_
  intro D' hD
  have h2 := (h1.sub sb).wiped (hS z0) na hp
  have h3 : Holds F ((.ref D', .own (.l [])) :: (ex ++ tmp)) (S z0) (wipe σ vs) (upd H1 D' (.lst [])) := by
    obtain ⟨G, ω, h2⟩ := h2
    exact h2.newL hD (Nat.zero_le _) rfl
  refine ⟨fun i n H' => ∃ z acc, i + n = ds.length ∧ acc.length ≤ i ∧ Holds F ((.ref D', .own (.l acc)) :: (ex ++ tmp)) (S z) (wipe σ vs) H' ∧ rb (rb (fmS (ds.drop i) z f) fun q => .ok (acc ++ q.1, q.2)) k = m, ⟨ds.length, z0, [], by simp, Nat.le_refl _, h3, ?_⟩, ?_⟩
  · rw [List.drop_zero, em]
    cases fmS ds z0 f with
    | ok q => simp [rb]
    | err e => rfl
    | fail => rfl
  rintro i n H' ⟨z, acc, hin, ha, hz, ez⟩
  cases n with
  | zero =>
    have hi : i = ds.length := by omega
    subst hi
    refine .inl ⟨it.stop _ _ _ (hP z) hz.pop, ?_⟩
    rw [List.drop_length] at ez
    refine q (.own (.l acc)) (pb (S z)) (.ref D') H' ?_ (it.bk [(.ref D', .own (.l acc))] _ _ _ (hP z) hz).unwipe
    have ez' : rb (.ok (acc ++ [], z)) k = m := ez
    rw [List.append_nil] at ez'
    rw [← ez']
    exact fin (acc, z)
  | succ n =>
    have hi : i < ds.length := by omega
    refine .inr ⟨it.go _ _ _ i (hP z) hz.pop hi, _, fun H2 w => ⟨n, by omega, w⟩, fun x H2 y => ?_⟩
    have hd : ds[i]? = some ds[i] := List.getElem?_eq_getElem hi
    have h4 := it.yld [(.ref D', .own (.l acc))] _ _ _ i _ x H2 (hP z) hz hd y
    rw [List.drop_eq_getElem_cons hi] at ez
    have nf' : f z ds[i] ≠ .fail := fun q => nf (by
      rw [← ez]
      show rb (rb (rb (f z ds[i]) _) _) k = _
      rw [q]; rfl)
    have eo' : EOk F (f z ds[i]) := eo.of fun e he => by
      rw [← ez]
      show rb (rb (rb (f z ds[i]) _) _) k = _
      rw [he]; rfl
    refine body z ds[i] (.ref D') acc _ H2 x _ h4 nf' eo' fun s3 σ3 H3 hb h5 hj hl => ?_
    refine ⟨wipe_congr hj hv hl, ?_⟩
    have hw := wipe_congr hj hv hl
    have back : ∀ {z' : Z} {s4 : State} {acc' : List D} {H4 : Hp}, Sub s4 (S z') → Holds F ((.ref D', .own (.l acc')) :: (ex ++ tmp)) s4 σ3 H4 → Holds F ((.ref D', .own (.l acc')) :: (ex ++ tmp)) (S z') (wipe σ vs) H4 := fun {z' s4 acc' H4} sb4 h => by
      have := (h.sub sb4).wiped (hS z') (by
        unfold noAlis at na ⊢
        rw [List.all_eq_true] at na ⊢
        exact fun i hi => na i hi) hp
      rw [hw] at this
      exact this
    refine hb σ3 H3 _ h5 nf' eo' fun b s4 H4 ⟨ma, mb, eb, hT, hF⟩ h6 => ?_
    cases b with
    | false =>
      simp only [Bool.false_eq_true, if_false] at eb ⊢
      obtain ⟨z', e1, sb1⟩ := hF rfl
      refine ⟨z', acc, by omega, by omega, back sb1 h6, ?_⟩
      rw [← ez, fmS_step none (eb.trans e1)]; rfl
    | true =>
      simp only [if_true] at eb ⊢
      subst eb
      refine hT rfl σ3 H4 _ h6 nf' eo' fun tm s5 w H5 ⟨y, z', e0, e1, sb1⟩ h7 => ?_
      subst e0
      have hlt : acc.length < sizeLine := by
        have := it.sz
        omega
      obtain ⟨ws, w1, w2, w3⟩ := h7.wrTmp hlt
      refine ⟨ws, w1, by rw [w2]; exact hlt, z', acc ++ [y], by omega, by simp; omega, back sb1 w3, ?_⟩
      rw [← ez, fmS_step (some y) e1]; rfl
/-- one that changes nothing outside -/
theorem fmR_fmS {f : D → Res (Option D)} : ∀ (ds : List D), fmS ds () (fun _ d => rb (f d) fun o => .ok (o, ())) = rb (fmR ds f) fun q => .ok (q, ())
  | [] => rfl
  | d :: r => by
    show rb (rb (f d) _) _ = rb (rb (f d) _) _
    cases f d with
    | ok o =>
      show rb (fmS r () _) _ = rb (rb (fmR r f) _) _
      rw [fmR_fmS r]
      cases fmR r f with
      | ok q => cases o <;> rfl
      | err e => rfl
      | fail => rfl
    | err e => rfl
    | fail => rfl
theorem rt_true {tt : TT} {K : Bool → State → Res R → Prop} (e : tt = fun _ H Q => Q true H) (k : K true s m) : RT F tmp s m tt K := fun σ H Q hh _ _ q => by subst e; exact q true s H k hh

/-! a def -/
def st0 (n : Nat) (ts : List T) : State := ts.map some ++ List.replicate (n - ts.length) none
def outOk : Nat → List (Option T) → State → List Nat → Prop
  | _, [], _, _ => True
  | k, none :: r, s, p => outOk (k + 1) r s p
  | k, some u :: r, s, p => s[k]? = some (some u) ∧ k ∈ p ∧ outOk (k + 1) r s p
theorem outOk_get : ∀ {outs : List (Option T)} {k : Nat} {s : State} {p : List Nat}, outOk k outs s p → ∀ (j : Nat) (u : T), outs[j]? = some (some u) → s[k + j]? = some (some u) ∧ k + j ∈ p
  | [], _, _, _, _, j, u, e => by simp at e
  | none :: r, k, s, p, h, 0, u, e => by simp at e
  | none :: r, k, s, p, h, j + 1, u, e => by
    have := outOk_get (k := k + 1) (outs := r) h j u (by simpa using e)
    rwa [show k + (j + 1) = k + 1 + j by omega]
  | some x :: r, k, s, p, h, 0, u, e => by simp at e; subst e; exact ⟨h.1, h.2.1⟩
  | some x :: r, k, s, p, h, j + 1, u, e => by
    have := outOk_get (k := k + 1) (outs := r) h.2.2 j u (by simpa using e)
    rwa [show k + (j + 1) = k + 1 + j by omega]
def rEnd {R : Type} (er : R → T) (eo : R → List (Option T)) (pins : List Nat) : Rr R := fun t s' m' => ∃ r, m' = .ok r ∧ t = er r ∧ outOk 0 (eo r) s' pins
theorem fn_body {A : Type} {ec : Nat → Addr} {ea : A → List T} {mir : A → Res R} {er : R → T} {eo : R → List (Option T)} {K : PySem.W.Frag} {N : List Str} {vs : List V} {H : Hp} {Q : VK} {E : XK} {t : TS} (pins : List Nat) (hn : ∀ a, (ea a).length ≤ N.length) (hpin : ∀ a, ∀ k ∈ pins, k < (ea a).length)
    (h : spOf ec ea mir er eo vs H Q E)
    (rd : ∀ (F : Fc) (a : A), F.ec = ec → F.E = E → F.K = K → (∀ k, k ∉ pins → F.pv k = none) → RS F [] (st0 N.length (ea a)) (mir a) t (fun s' m' => rEnd er eo pins (.f .non) s' m') (rEnd er eo pins)) :
    t { nx := fun _ H' => Q .non H', rt := Q } (L2.start N vs) H := by
  obtain ⟨a, G, w, g1, g2, hl, ha, nf, hq, he⟩ := h
  let F : Fc := ⟨K, G, H, w, E, ec, fun k => if k ∈ pins then vs[k]? else none⟩
  have hnn := hn a
  have h0 : Holds F [] (st0 N.length (ea a)) (L2.start N vs) H := by
    refine ⟨G, w, ⟨Same.refl _, g1, fun a o e => .inl e, fun a o e _ => e, fun a o e => ⟨o, e⟩, fun x p e => ⟨(g2 x p e).1, (g2 x p e).2, .inr (by show (w x).isSome = true; rw [e]; rfl)⟩, ?_, fun i u e => ?_, trivial, fun k v e => ?_⟩⟩
    · simp [L2.start, st0, hl]
    · unfold st0 at e
      by_cases hi : i < (ea a).length
      · rw [List.getElem?_append_left (by simpa using hi), List.getElem?_map] at e
        cases e2 : (ea a)[i]? with
        | none => rw [e2] at e; cases e
        | some y =>
          rw [e2] at e
          cases e
          obtain ⟨u', e3, e4⟩ := ha i _ e2
          refine ⟨u', ?_, e4⟩
          unfold L2.start
          rw [List.getElem?_append_left (by simp [hl, hi]), List.getElem?_map, e3]; rfl
      · rw [List.getElem?_append_right (by simp; omega), List.getElem?_replicate] at e
        split at e <;> cases e
    · have e' : (if k ∈ pins then vs[k]? else none) = some v := e
      split at e'
      · unfold L2.start
        rw [List.getElem?_append_left (by simp; exact (List.getElem?_eq_some_iff.mp e').1), List.getElem?_map, e']; rfl
      · cases e'
  have fin : ∀ t s' v σ' H', rEnd er eo pins t s' (mir a) → Holds F [(v, .own t)] s' σ' H' → Q v H' := fun t s' v σ' H' ⟨r, e1, e2, e3⟩ h1 => by
    subst e2
    obtain ⟨G', ω, h1⟩ := h1
    refine hq r v H' e1 ⟨G', rl ω (fun l => match l with | 1 :: 0 :: x => some (2 :: x) | l => some l), ⟨h1.g0, h1.gH, h1.gn, h1.fr, h1.ex⟩, fun x p e => ?_, ?_, fun k u e => ?_⟩
    · obtain ⟨p', e4, _⟩ := rl_some e
      exact h1.wg x p' e4
    · exact Own.rl h1.tm.1 fun x => by simp
    · obtain ⟨e4, e5⟩ := outOk_get e3 k u e
      rw [Nat.zero_add] at e4 e5
      obtain ⟨y, e6, e7⟩ := h1.sl k u e4
      have hk : k < vs.length := by rw [hl]; exact hpin a k e5
      have hp : F.pv k = some vs[k] := by
        show (if k ∈ pins then vs[k]? else none) = _
        rw [if_pos e5, List.getElem?_eq_getElem hk]
      have := h1.pn k _ hp
      rw [e6] at this
      cases this
      exact ⟨_, List.getElem?_eq_getElem hk, Own.rl e7 fun x => by simp⟩
  exact rd F a rfl rfl rfl (fun k hk => by show (if k ∈ pins then vs[k]? else none) = none; rw [if_neg hk]) _ _ _ h0 nf (fun e ee od H' ⟨G', a1, a2, a3, a4, a5, a6⟩ => he e od H' ee ⟨G', ⟨a1, a2, a3, a4, a5⟩, a6⟩) (fun s' σ' H' hk h1 => fin (.f .non) s' .non σ' H' hk (holds_push (d := .non) (v := .non) h1 fun _ => rfl)) fin
end
end VL

namespace VL
open PySem L2
variable [EC]

/-! what stands at a temporary -/
def RepC (G H : Hp) : D → V → Prop
  | .lst l, v => ∃ a vs, v = .ref a ∧ Rd H a (.lst vs) ∧ l.length ≤ sizeLine ∧ Reps G l vs
  | .tup l, v => ∃ a vs, v = .ref a ∧ H a = some (.tup vs) ∧ l.length ≤ sizeLine ∧ Reps G l vs
  | .dct false l, v => ∃ a kvs, v = .ref a ∧ Rd H a (.dK kvs) ∧ RepK G l kvs
  | .dct true l, v => ∃ a kvs, v = .ref a ∧ H a = some (.dT kvs) ∧ RepT G l kvs
  | d, v => Rep G d v
def valT (s : State) (tm : TM) : Option D := (treeAt s tm).map T.er
def valS (s : State) (tm : TM) : Option D := match treeAt s tm with
  | some (.f d) => some d
  | some (.l ds) => some (.lst ds)
  | some (.dc k l) => some (.dct k l)
  | _ => none
section
variable {F : Fc} {G H H' : Hp} {ω : Addr → Option Lab} {tmp : Tmp} {s : State} {σ : St} {v : V} {t : T} {d : D}
theorem Rep.toC (sm : Same G H) : ∀ {d : D} {v : V}, Rep G d v → RepC G H d v
  | .exc _ _, _, h => h
  | .fd _ _ _, _, h => h
  | .non, _, h => h
  | .bl _, _, h => h
  | .int _, _, h => h
  | .str _, _, h => h
  | .opq _, _, h => h
  | .lst _, _, ⟨a, vs, e, r, z, q⟩ => ⟨a, vs, e, Same.rd sm r, z, q⟩
  | .tup _, _, ⟨a, vs, e, r, z, q⟩ => ⟨a, vs, e, sm _ _ r, z, q⟩
  | .dct false _, _, ⟨a, kvs, e, r, q⟩ => ⟨a, kvs, e, Same.rd sm r, q⟩
  | .dct true _, _, ⟨a, kvs, e, r, q⟩ => ⟨a, kvs, e, sm _ _ r, q⟩
theorem RepC.toR (sm : Same G H) : ∀ {d : D} {v : V}, RepC G H d v → Rep H d v
  | .exc _ _, _, h => Rep.mono sm _ _ h
  | .fd _ _ _, _, h => Rep.mono sm _ _ h
  | .non, _, h => h
  | .bl _, _, h => h
  | .int _, _, h => h
  | .str _, _, h => h
  | .opq _, _, h => h
  | .lst l, _, ⟨a, vs, e, r, z, q⟩ => ⟨a, vs, e, r, z, Reps.mono sm _ _ q⟩
  | .tup l, _, ⟨a, vs, e, r, z, q⟩ => ⟨a, vs, e, r, z, Reps.mono sm _ _ q⟩
  | .dct false l, _, ⟨a, kvs, e, r, q⟩ => ⟨a, kvs, e, r, RepK.mono sm _ _ q⟩
  | .dct true l, _, ⟨a, kvs, e, r, q⟩ => ⟨a, kvs, e, r, RepT.mono sm _ _ q⟩
theorem Hd.tree (h : Hd F G ω tmp s σ H) {p : Lab} {tm : TM} (ok : TmOk G H ω σ p tm v) (e : treeAt s tm = some t) : ∃ q, Own G H ω q t v := by
  cases tm with
  | own t' => cases e; exact ⟨p, ok⟩
  | ali i =>
    have ok' : σ[i]? = some (some v) := ok
    cases e5 : s[i]? with
    | none => simp [treeAt, e5] at e
    | some x =>
      simp [treeAt, e5] at e
      subst e
      obtain ⟨v', a, b⟩ := h.sl i t e5
      rw [ok'] at a
      cases a
      exact ⟨_, b⟩
theorem Hd.repT (h : Hd F G ω tmp s σ H) {p : Lab} {tm : TM} (ok : TmOk G H ω σ p tm v) (e : valT s tm = some d) : Rep H d v := by
  unfold valT at e
  cases e2 : treeAt s tm with
  | none => rw [e2] at e; cases e
  | some t =>
    rw [e2] at e
    cases e
    obtain ⟨q, o⟩ := h.tree ok e2
    exact Own.rep h.gH q t v (fun a x _ o ho => ho) o
theorem Hd.repC (h : Hd F G ω tmp s σ H) {p : Lab} {tm : TM} (ok : TmOk G H ω σ p tm v) (e : valS s tm = some d) : RepC G H d v := by
  unfold valS at e
  cases e2 : treeAt s tm with
  | none => rw [e2] at e; cases e
  | some t =>
    rw [e2] at e
    obtain ⟨q, o⟩ := h.tree ok e2
    cases t with
    | f d' => cases e; exact Rep.toC h.gH o
    | l ds => cases e; obtain ⟨a, vs, e, r, w, z, q⟩ := o; exact ⟨a, vs, e, .inl r, z, q⟩
    | dc k l =>
      cases e
      cases k with
      | false => obtain ⟨a, kvs, e, w, r, q⟩ := o; exact ⟨a, kvs, e, .inl r, q⟩
      | true => obtain ⟨a, kvs, e, w, r⟩ := o; exact ⟨a, kvs, e, r⟩
    | ll ts => cases e
    | tt ts => cases e
    | dl ks ts => cases e
    | hole w => cases e
end
theorem holds_bl {F : Fc} {tmp : Tmp} {s : State} {σ : St} {H : Hp} {b : Bool} (h : Holds F tmp s σ H) : Holds F ((.bl b, .own (.f (.bl b))) :: tmp) s σ H := holds_push (d := .bl b) (v := .bl b) h fun _ => rfl
def Op2C (r : R2) (op : D → D → Option D) : Prop := ∀ G H x y a b c Q, Same G H → RepC G H a x → RepC G H b y → op a b = some c → (∀ v, Rep G c v → Q v H) → r x y H Q
def Op2L (r : R2) (op : D → D → Option (List D)) : Prop := ∀ G H x y a b c Q, Same G H → RepC G H a x → RepC G H b y → op a b = some c → c.length ≤ sizeLine ∧ ((∀ p vs, H p = none → Reps G c vs → Q (.ref p) (upd H p (.lst vs))) → r x y H Q)
def Op2B (r : R2) (op : D → D → Option Bool) : Prop := ∀ H x y a b c Q, Rep H a x → Rep H b y → op a b = some c → Q (.bl c) H → r x y H Q
def Op1C (r : V → Hp → VK → Prop) (op : D → Option D) : Prop := ∀ G H x a c Q, Same G H → RepC G H a x → op a = some c → (∀ v, Rep G c v → Q v H) → r x H Q
def Op1L (r : V → Hp → VK → Prop) (op : D → Option (List D)) : Prop := ∀ G H x a c Q, Same G H → RepC G H a x → op a = some c → c.length ≤ sizeLine ∧ ((∀ p vs, H p = none → Reps G c vs → Q (.ref p) (upd H p (.lst vs))) → r x H Q)
def Op1B (r : V → Hp → VK → Prop) (op : D → Option Bool) : Prop := ∀ H x a c Q, Rep H a x → op a = some c → Q (.bl c) H → r x H Q
section
variable {R : Type} {F : Fc} {tmp : Tmp} {s : State} {m : Res R} {K : Rs R} {N : Rn R} {Rt : Rr R} {ta tb : TE}
theorem rd_op2 {r : R2} {op : D → D → Option D} (ho : Op2C r op) (h : RD F tmp s ta m (fun tm1 s1 m1 => ∀ x, RD F ((x, tm1) :: tmp) s1 tb m1 (fun tm2 s2 m2 => ∃ a b k, valS s2 tm1 = some a ∧ valS s2 tm2 = some b ∧ m2 = ob (op a b) k ∧ ∀ c, K (.own (.f c)) s2 (k c)))) : RD F tmp s (tOp r ta tb) m K := fun σ H Q hh nf eo q =>
  h σ H _ hh nf eo fun tm1 s1 x H1 h2 h1 => h2 x σ H1 _ h1 nf eo fun tm2 s2 y H2 ⟨a, b, k, ea, eb, em, hk⟩ h3 => by
    obtain ⟨c, ec, em'⟩ := ob_cases (by rw [← em]; exact nf)
    obtain ⟨G, ω, h3⟩ := h3
    exact ho G H2 x y a b c Q h3.gH (h3.repC h3.tm.2.1 ea) (h3.repC h3.tm.1 eb) ec fun v rv => q _ s2 v H2 (by rw [em, em']; exact hk c) ⟨G, ω, h3.pop.pop.pushF rv⟩
theorem rd_op2L {r : R2} {op : D → D → Option (List D)} (ho : Op2L r op) (h : RD F tmp s ta m (fun tm1 s1 m1 => ∀ x, RD F ((x, tm1) :: tmp) s1 tb m1 (fun tm2 s2 m2 => ∃ a b k, valS s2 tm1 = some a ∧ valS s2 tm2 = some b ∧ m2 = ob (op a b) k ∧ ∀ c, K (.own (.l c)) s2 (k c)))) : RD F tmp s (tOp r ta tb) m K := fun σ H Q hh nf eo q =>
  h σ H _ hh nf eo fun tm1 s1 x H1 h2 h1 => h2 x σ H1 _ h1 nf eo fun tm2 s2 y H2 ⟨a, b, k, ea, eb, em, hk⟩ h3 => by
    obtain ⟨c, ec, em'⟩ := ob_cases (by rw [← em]; exact nf)
    obtain ⟨G, ω, h3⟩ := h3
    obtain ⟨z, ho⟩ := ho G H2 x y a b c Q h3.gH (h3.repC h3.tm.2.1 ea) (h3.repC h3.tm.1 eb) ec
    exact ho fun p vs np rv => q _ s2 _ _ (by rw [em, em']; exact hk c) (h3.pop.pop.newL np z rv)
theorem rd_op2B {r : R2} {op : D → D → Option Bool} (ho : Op2B r op) (h : RD F tmp s ta m (fun tm1 s1 m1 => ∀ x, RD F ((x, tm1) :: tmp) s1 tb m1 (fun tm2 s2 m2 => ∃ a b k, valT s2 tm1 = some a ∧ valT s2 tm2 = some b ∧ m2 = ob (op a b) k ∧ ∀ c, K (.own (.f (.bl c))) s2 (k c)))) : RD F tmp s (tOp r ta tb) m K := fun σ H Q hh nf eo q =>
  h σ H _ hh nf eo fun tm1 s1 x H1 h2 h1 => h2 x σ H1 _ h1 nf eo fun tm2 s2 y H2 ⟨a, b, k, ea, eb, em, hk⟩ h3 => by
    obtain ⟨c, ec, em'⟩ := ob_cases (by rw [← em]; exact nf)
    have h4 := h3
    obtain ⟨G, ω, h3⟩ := h3
    exact ho H2 x y a b c Q (h3.repT h3.tm.2.1 ea) (h3.repT h3.tm.1 eb) ec (q _ s2 _ H2 (by rw [em, em']; exact hk c) (holds_bl h4.pop.pop))
theorem rd_un {r : V → Hp → VK → Prop} {op : D → Option D} (ho : Op1C r op) (h : RD F tmp s ta m (fun tm1 s1 m1 => ∃ a k, valS s1 tm1 = some a ∧ m1 = ob (op a) k ∧ ∀ c, K (.own (.f c)) s1 (k c))) : RD F tmp s (tUn r ta) m K := fun σ H Q hh nf eo q =>
  h σ H _ hh nf eo fun tm1 s1 x H1 ⟨a, k, ea, em, hk⟩ h1 => by
    obtain ⟨c, ec, em'⟩ := ob_cases (by rw [← em]; exact nf)
    obtain ⟨G, ω, h1⟩ := h1
    exact ho G H1 x a c Q h1.gH (h1.repC h1.tm.1 ea) ec fun v rv => q _ s1 v H1 (by rw [em, em']; exact hk c) ⟨G, ω, h1.pop.pushF rv⟩
/-- a built-in of one argument -/
theorem rd_cb1 {r : List V → Hp → VK → Prop} {op : D → Option D} (ho : Op1C (fun x H Q => r [x] H Q) op) (h : RD F tmp s ta m (fun tm1 s1 m1 => ∃ a k, valS s1 tm1 = some a ∧ m1 = ob (op a) k ∧ ∀ c, K (.own (.f c)) s1 (k c))) : RD F tmp s (tCB r (tCons ta tNil)) m K := fun σ H Q hh nf eo q =>
  h σ H _ hh nf eo fun tm1 s1 x H1 ⟨a, k, ea, em, hk⟩ h1 => by
    obtain ⟨c, ec, em'⟩ := ob_cases (by rw [← em]; exact nf)
    obtain ⟨G, ω, h1⟩ := h1
    exact ho G H1 x a c Q h1.gH (h1.repC h1.tm.1 ea) ec fun v rv => q _ s1 v H1 (by rw [em, em']; exact hk c) ⟨G, ω, h1.pop.pushF rv⟩
theorem rd_cb1T {r : List V → Hp → VK → Prop} {op : D → Option D} (ho : Op1C (fun x H Q => r [x] H Q) op) (h : RD F tmp s ta m (fun tm1 s1 m1 => ∃ a k, valT s1 tm1 = some a ∧ m1 = ob (op a) k ∧ ∀ c, K (.own (.f c)) s1 (k c))) (fl : ∀ a c, op a = some c → ∀ (G H : Hp) v, Rep H c v → Rep G c v) : RD F tmp s (tCB r (tCons ta tNil)) m K := fun σ H Q hh nf eo q =>
  h σ H _ hh nf eo fun tm1 s1 x H1 ⟨a, k, ea, em, hk⟩ h1 => by
    obtain ⟨c, ec, em'⟩ := ob_cases (by rw [← em]; exact nf)
    obtain ⟨G, ω, h1⟩ := h1
    exact ho H1 H1 x a c Q (Same.refl _) (Rep.toC (Same.refl _) (h1.repT h1.tm.1 ea)) ec fun v rv => q _ s1 v H1 (by rw [em, em']; exact hk c) ⟨G, ω, h1.pop.pushF (fl a c ec _ _ v rv)⟩
theorem rd_cb1L {r : List V → Hp → VK → Prop} {op : D → Option (List D)} (ho : Op1L (fun x H Q => r [x] H Q) op) (h : RD F tmp s ta m (fun tm1 s1 m1 => ∃ a k, valS s1 tm1 = some a ∧ m1 = ob (op a) k ∧ ∀ c, K (.own (.l c)) s1 (k c))) : RD F tmp s (tCB r (tCons ta tNil)) m K := fun σ H Q hh nf eo q =>
  h σ H _ hh nf eo fun tm1 s1 x H1 ⟨a, k, ea, em, hk⟩ h1 => by
    obtain ⟨c, ec, em'⟩ := ob_cases (by rw [← em]; exact nf)
    obtain ⟨G, ω, h1⟩ := h1
    obtain ⟨z, ho⟩ := ho G H1 x a c Q h1.gH (h1.repC h1.tm.1 ea) ec
    exact ho fun p vs np rv => q _ s1 _ _ (by rw [em, em']; exact hk c) (h1.pop.newL np z rv)
theorem rd_cb2 {r : List V → Hp → VK → Prop} {op : D → D → Option D} (ho : Op2C (fun x y H Q => r [x, y] H Q) op) (h : RD F tmp s ta m (fun tm1 s1 m1 => ∀ x, RD F ((x, tm1) :: tmp) s1 tb m1 (fun tm2 s2 m2 => ∃ a b k, valS s2 tm1 = some a ∧ valS s2 tm2 = some b ∧ m2 = ob (op a b) k ∧ ∀ c, K (.own (.f c)) s2 (k c)))) : RD F tmp s (tCB r (tCons ta (tCons tb tNil))) m K :=
  rd_op2 ho h
/-! tests -/
def asB : D → Option Bool | .bl b => some b | _ => none
def asI : D → Option Int | .int i => some i | _ => none
theorem rt_val {K : Bool → State → Res R → Prop} (h : RD F tmp s ta m (fun tm s1 m1 => ∃ d k, valS s1 tm = some d ∧ m1 = ob (asB d) k ∧ ∀ c, K c s1 (k c))) : RT F tmp s m (tB ta) K := fun σ H Q hh nf eo q =>
  h σ H _ hh nf eo fun tm s1 x H1 ⟨d, k, ea, em, hk⟩ h1 => by
    obtain ⟨c, ec, em'⟩ := ob_cases (by rw [← em]; exact nf)
    have h2 := h1
    obtain ⟨G, ω, h1⟩ := h1
    have r := h1.repC h1.tm.1 ea
    cases d <;> first | cases ec | skip
    exact ⟨_, r, q _ s1 H1 (by rw [em, em']; exact hk _) h2.pop⟩
theorem rt_test {K : Bool → State → Res R → Prop} (h : RT F tmp s m (tB ta) K) : RT F tmp s m (tTest ta) K := h
theorem rt_op2B {r : R2} {op : D → D → Option Bool} {K : Bool → State → Res R → Prop} (ho : Op2B r op) (h : RD F tmp s ta m (fun tm1 s1 m1 => ∀ x, RD F ((x, tm1) :: tmp) s1 tb m1 (fun tm2 s2 m2 => ∃ a b k, valT s2 tm1 = some a ∧ valT s2 tm2 = some b ∧ m2 = ob (op a b) k ∧ ∀ c, K c s2 (k c)))) : RT F tmp s m (tTest (tOp r ta tb)) K := fun σ H Q hh nf eo q =>
  h σ H _ hh nf eo fun tm1 s1 x H1 h2 h1 => h2 x σ H1 _ h1 nf eo fun tm2 s2 y H2 ⟨a, b, k, ea, eb, em, hk⟩ h3 => by
    obtain ⟨c, ec, em'⟩ := ob_cases (by rw [← em]; exact nf)
    have h4 := h3
    obtain ⟨G, ω, h3⟩ := h3
    exact ho H2 x y a b c _ (h3.repT h3.tm.2.1 ea) (h3.repT h3.tm.1 eb) ec ⟨c, rfl, q _ s2 H2 (by rw [em, em']; exact hk c) h4.pop.pop⟩
theorem rt_not {t : TT} {K : Bool → State → Res R → Prop} (h : RT F tmp s m t (fun b s1 m1 => K (!b) s1 m1)) : RT F tmp s m (tNot t) K := fun σ H Q hh nf eo q => h σ H _ hh nf eo fun b s1 H1 hk h1 => q _ s1 H1 hk h1
theorem rt_and {Z : Type} {t u : TT} {K : Bool → State → Res R → Prop} (h : RT F tmp s m t (fun b s1 m1 => ∃ (S : Z → State) (z0 : Z) (ma : Res (Bool × Z)) (k : Bool × Z → Res R), m1 = rb (if b = true then ma else .ok (false, z0)) k ∧ Sub s1 (S z0) ∧
      (b = true → RT F tmp s1 ma u (fun c s2 m2 => ∃ z, m2 = .ok (c, z) ∧ Sub s2 (S z))) ∧ ∀ p : Bool × Z, K p.1 (S p.2) (k p))) : RT F tmp s m (tAnd t u) K := fun σ H Q hh nf eo q =>
  h σ H _ hh nf eo fun b s1 H1 ⟨S, z0, ma, k, em, sb, hu, hk⟩ h1 => by
    cases b with
    | false =>
      simp only [Bool.false_eq_true, if_false] at em ⊢
      exact q false _ H1 (by rw [em]; exact hk (false, z0)) (h1.sub sb)
    | true =>
      simp only [if_true] at em ⊢
      have nf' : ma ≠ .fail := fun z => nf (by rw [em, z]; rfl)
      refine hu rfl σ H1 _ h1 nf' (eo.of fun e he => by rw [em, he]; rfl) fun c s2 H2 ⟨z, e1, sb2⟩ h2 => ?_
      exact q c _ H2 (by rw [em, e1]; exact hk (c, z)) (h2.sub sb2)
theorem rt_or {Z : Type} {t u : TT} {K : Bool → State → Res R → Prop} (h : RT F tmp s m t (fun b s1 m1 => ∃ (S : Z → State) (z0 : Z) (ma : Res (Bool × Z)) (k : Bool × Z → Res R), m1 = rb (if b = true then .ok (true, z0) else ma) k ∧ Sub s1 (S z0) ∧
      (b = false → RT F tmp s1 ma u (fun c s2 m2 => ∃ z, m2 = .ok (c, z) ∧ Sub s2 (S z))) ∧ ∀ p : Bool × Z, K p.1 (S p.2) (k p))) : RT F tmp s m (tOr t u) K := fun σ H Q hh nf eo q =>
  h σ H _ hh nf eo fun b s1 H1 ⟨S, z0, ma, k, em, sb, hu, hk⟩ h1 => by
    cases b with
    | true =>
      simp only [if_true] at em ⊢
      exact q true _ H1 (by rw [em]; exact hk (true, z0)) (h1.sub sb)
    | false =>
      simp only [Bool.false_eq_true, if_false] at em ⊢
      have nf' : ma ≠ .fail := fun z => nf (by rw [em, z]; rfl)
      refine hu rfl σ H1 _ h1 nf' (eo.of fun e he => by rw [em, he]; rfl) fun c s2 H2 ⟨z, e1, sb2⟩ h2 => ?_
      exact q c _ H2 (by rw [em, e1]; exact hk (c, z)) (h2.sub sb2)
/-! and, or, not as values -/
theorem rd_andV {Z : Type} (h : RD F tmp s ta m (fun tm s1 m1 => ∃ d kk, valS s1 tm = some d ∧ m1 = ob (asB d) kk ∧ ∀ b, ∃ (S : Z → State) (z0 : Z) (ma : Res (D × Z)) (k : D × Z → Res R), kk b = rb (if b = true then ma else .ok (.bl false, z0)) k ∧ Sub s1 (S z0) ∧
      (b = true → RD F tmp s1 tb ma (fun tm2 s2 m2 => ∃ d2 z, tm2 = .own (.f d2) ∧ m2 = .ok (d2, z) ∧ Sub s2 (S z))) ∧ ∀ p : D × Z, K (.own (.f p.1)) (S p.2) (k p))) : RD F tmp s (tAndV ta tb) m K := fun σ H Q hh nf eo q =>
  h σ H _ hh nf eo fun tm s1 x H1 ⟨d, kk, ea, em0, hb⟩ h1 => by
    obtain ⟨b, ec, em'⟩ := ob_cases (by rw [← em0]; exact nf)
    have h2 := h1
    obtain ⟨G, ω, h1⟩ := h1
    have r := h1.repC h1.tm.1 ea
    cases d <;> first | cases ec | skip
    refine ⟨_, r, ?_⟩
    obtain ⟨S, z0, ma, k, em, sb, hu, hk⟩ := hb b
    rw [← em', ← em0] at em
    cases b with
    | false =>
      simp only [Bool.false_eq_true, if_false] at em ⊢
      exact q _ _ _ H1 (by rw [em]; exact hk (_, z0)) (holds_bl (h2.pop.sub sb))
    | true =>
      simp only [if_true] at em ⊢
      have nf' : ma ≠ .fail := fun z => nf (by rw [em, z]; rfl)
      refine hu rfl σ H1 _ h2.pop nf' (eo.of fun e he => by rw [em, he]; rfl) fun tm2 s2 y H2 ⟨d2, z, e0, e1, sb2⟩ h3 => ?_
      subst e0
      exact q _ _ y H2 (by rw [em, e1]; exact hk (d2, z)) (h3.sub sb2)
theorem rd_orV {Z : Type} (h : RD F tmp s ta m (fun tm s1 m1 => ∃ d kk, valS s1 tm = some d ∧ m1 = ob (asB d) kk ∧ ∀ b, ∃ (S : Z → State) (z0 : Z) (ma : Res (D × Z)) (k : D × Z → Res R), kk b = rb (if b = true then .ok (.bl true, z0) else ma) k ∧ Sub s1 (S z0) ∧
      (b = false → RD F tmp s1 tb ma (fun tm2 s2 m2 => ∃ d2 z, tm2 = .own (.f d2) ∧ m2 = .ok (d2, z) ∧ Sub s2 (S z))) ∧ ∀ p : D × Z, K (.own (.f p.1)) (S p.2) (k p))) : RD F tmp s (tOrV ta tb) m K := fun σ H Q hh nf eo q =>
  h σ H _ hh nf eo fun tm s1 x H1 ⟨d, kk, ea, em0, hb⟩ h1 => by
    obtain ⟨b, ec, em'⟩ := ob_cases (by rw [← em0]; exact nf)
    have h2 := h1
    obtain ⟨G, ω, h1⟩ := h1
    have r := h1.repC h1.tm.1 ea
    cases d <;> first | cases ec | skip
    refine ⟨_, r, ?_⟩
    obtain ⟨S, z0, ma, k, em, sb, hu, hk⟩ := hb b
    rw [← em', ← em0] at em
    cases b with
    | true =>
      simp only [if_true] at em ⊢
      exact q _ _ _ H1 (by rw [em]; exact hk (_, z0)) (holds_bl (h2.pop.sub sb))
    | false =>
      simp only [Bool.false_eq_true, if_false] at em ⊢
      have nf' : ma ≠ .fail := fun z => nf (by rw [em, z]; rfl)
      refine hu rfl σ H1 _ h2.pop nf' (eo.of fun e he => by rw [em, he]; rfl) fun tm2 s2 y H2 ⟨d2, z, e0, e1, sb2⟩ h3 => ?_
      subst e0
      exact q _ _ y H2 (by rw [em, e1]; exact hk (d2, z)) (h3.sub sb2)
theorem rd_notV (h : RD F tmp s ta m (fun tm s1 m1 => ∃ d k, valS s1 tm = some d ∧ m1 = ob (asB d) k ∧ ∀ b, K (.own (.f (.bl (!b)))) s1 (k b))) : RD F tmp s (tNotV ta) m K := fun σ H Q hh nf eo q =>
  h σ H _ hh nf eo fun tm s1 x H1 ⟨d, k, ea, em, hk⟩ h1 => by
    obtain ⟨c, ec, em'⟩ := ob_cases (by rw [← em]; exact nf)
    have h2 := h1
    obtain ⟨G, ω, h1⟩ := h1
    have r := h1.repC h1.tm.1 ea
    cases d <;> first | cases ec | skip
    exact ⟨_, r, q _ s1 _ H1 (by rw [em, em']; exact hk _) (holds_bl h2.pop)⟩
/-! displays -/
def frozs : List TM → Option (List D)
  | [] => some []
  | .own (.f d) :: r => (frozs r).map (d :: ·)
  | _ :: _ => none
theorem frozs_reps {G H : Hp} {ω : Addr → Option Lab} {σ : St} : ∀ (vs : List V) (tms : List TM) (tmp : Tmp) (ds : List D), vs.length = tms.length → frozs tms = some ds → Tms G H ω σ (pushes vs tms tmp) → Tms G H ω σ tmp ∧ Reps G ds vs := fun vs tms tmp ds hl hf ht => by
  obtain ⟨h0, h1⟩ := Tms.args vs tms tmp hl ht
  refine ⟨h0, ?_⟩
  have key : ∀ (tms : List TM) (ds : List D), frozs tms = some ds → ds.length = tms.length ∧ ∀ (k : Nat) d, ds[k]? = some d → tms[k]? = some (.own (.f d)) := by
    intro tms
    induction tms with
    | nil => intro ds h; cases h; exact ⟨rfl, fun k d e => by simp at e⟩
    | cons tm r ih =>
      intro ds h
      cases tm with
      | ali i => cases h
      | own t =>
        cases t <;> try (simp [frozs] at h; done)
        rename_i d0
        cases e : frozs r with
        | none => simp [frozs, e] at h
        | some ds' =>
          simp [frozs, e] at h
          subst h
          obtain ⟨a, b⟩ := ih ds' e
          refine ⟨by simp [a], fun k d e2 => ?_⟩
          cases k with
          | zero => simp at e2; subst e2; rfl
          | succ k => simpa using b k d (by simpa using e2)
  obtain ⟨k1, k2⟩ := key tms ds hf
  refine Reps.of (by rw [k1, hl]) fun i d v e1 e2 => ?_
  obtain ⟨w, w1, w2⟩ := h1 i _ (k2 i d e1)
  rw [e2] at w1; cases w1
  exact w2
theorem pushes_pop : ∀ (vs : List V) (tms : List TM) (tmp : Tmp) {s : State} {σ : St} {H : Hp}, vs.length = tms.length → Holds F (pushes vs tms tmp) s σ H → Holds F tmp s σ H
  | [], [], _, _, _, _, _, h => h
  | v :: vs, tm :: tms, tmp, _, _, _, hl, h => (pushes_pop vs tms ((v, tm) :: tmp) (by simpa using hl) h).pop
  | [], _ :: _, _, _, _, _, hl, _ => by simp at hl
  | _ :: _, [], _, _, _, _, hl, _ => by simp at hl
theorem rd_lst {t : TA} (h : RA F tmp s m t (fun tms s1 m1 => ∃ ds, frozs tms = some ds ∧ ds.length ≤ 1000 ∧ K (.own (.l ds)) s1 m1)) : RD F tmp s (tLst t) m K := fun σ H Q hh nf eo q =>
  h σ H _ hh nf eo fun tms s1 vs H1 ⟨ds, hf, hz, hk⟩ hl h1 => by
    obtain ⟨G, ω, h2⟩ := h1
    obtain ⟨t0, r⟩ := frozs_reps vs tms tmp ds hl hf h2.tm
    have h3 : Hd F G ω tmp s1 σ H1 := { h2 with tm := t0 }
    have z : ds.length ≤ sizeLine := by rw [sizeLine_eq]; omega
    exact ⟨by rw [← r.length]; exact z, fun p hp => q _ s1 _ _ hk (h3.newL hp z r)⟩
theorem rd_tup {t : TA} (h : RA F tmp s m t (fun tms s1 m1 => ∃ ds, frozs tms = some ds ∧ ds.length ≤ 1000 ∧ K (.own (.f (.tup ds))) s1 m1)) : RD F tmp s (tTup t) m K := fun σ H Q hh nf eo q =>
  h σ H _ hh nf eo fun tms s1 vs H1 ⟨ds, hf, hz, hk⟩ hl h1 => by
    obtain ⟨G, ω, h2⟩ := h1
    obtain ⟨t0, r⟩ := frozs_reps vs tms tmp ds hl hf h2.tm
    have h3 : Hd F G ω tmp s1 σ H1 := { h2 with tm := t0 }
    have z : ds.length ≤ sizeLine := by rw [sizeLine_eq]; omega
    exact ⟨by rw [← r.length]; exact z, fun p hp => q _ s1 _ _ hk (h3.newT hp z r)⟩
end
end VL

namespace VL
open PySem L2 PySem.SeqAt
variable [EC]

theorem mkS_beq (a b : List Nat) : (mkS a == mkS b) = (a == b) := by
  by_cases h : a = b
  · subst h; simp
  · have h2 : ¬ mkS a = mkS b := fun z => h (mkS_inj z)
    rw [beq_eq_false_iff_ne.mpr h]
    exact beq_eq_false_iff_ne.mpr h2
/-! == -/
mutual
def D.eqv : D → D → Bool
  | .non, .non => true
  | .bl a, .bl b => a == b
  | .bl a, .int b => (if a then 1 else 0) == b
  | .int a, .bl b => a == (if b then 1 else 0)
  | .int a, .int b => a == b
  | .str a, .str b => a == b
  | .tup a, .tup b => D.eqvs a b
  | .lst a, .lst b => D.eqvs a b
  | _, _ => false
def D.eqvs : List D → List D → Bool
  | [], [] => true
  | a :: r, b :: q => D.eqv a b && D.eqvs r q
  | _, _ => false
end
mutual
def D.plain : D → Bool
  | .tup l => D.plains l
  | .lst l => D.plains l
  | .dct _ _ => false
  | .opq _ => false
  | .exc _ _ => false
  | .fd _ _ _ => false
  | .non => true
  | .bl _ => true
  | .int _ => true
  | .str _ => true
def D.plains : List D → Bool
  | [] => true
  | a :: r => D.plain a && D.plains r
end
mutual
def D.dep : D → Nat
  | .tup l => D.deps l + 1
  | .lst l => D.deps l + 1
  | .dct _ _ => 0
  | .opq _ => 0
  | .exc _ _ => 0
  | .fd _ _ _ => 0
  | .non => 0
  | .bl _ => 0
  | .int _ => 0
  | .str _ => 0
def D.deps : List D → Nat
  | [] => 0
  | a :: r => max (D.dep a) (D.deps r)
end
theorem rd_inj {H : Hp} {a : Addr} {o u : List V} (h : Rd H a (.lst o)) (q : Rd H a (.lst u)) : o = u := by
  rcases h with h | ⟨_, h⟩ <;> rcases q with q | ⟨_, q⟩ <;> (rw [h] at q; first | (cases q; done) | (cases q; rfl))
mutual
theorem rep_inj {H : Hp} : ∀ (a b : D) (v : V), a.plain = true → b.plain = true → Rep H a v → Rep H b v → a = b

  | .non, .non, _, _, _, _, _ => rfl
  | .non, .bl y, v, _, _, h, q => by have e := (show v = .non from h).symm.trans (show v = .bl y from q); cases e
  | .non, .int y, v, _, _, h, q => by have e := (show v = .non from h).symm.trans (show v = .int y from q); cases e
  | .non, .str y, v, _, _, h, q => by have e := (show v = .non from h).symm.trans (show v = .str (mkS y) from q); cases e
  | .non, .tup l, v, _, _, h, ⟨_, _, e, _⟩ => by have e2 := (show v = .non from h).symm.trans e; cases e2
  | .non, .lst l, v, _, _, h, ⟨_, _, e, _⟩ => by have e2 := (show v = .non from h).symm.trans e; cases e2
  | .bl x, .non, v, _, _, h, q => by have e := (show v = .bl x from h).symm.trans (show v = .non from q); cases e
  | .bl x, .bl y, v, _, _, h, q => by
    have e := (show v = .bl x from h).symm.trans (show v = .bl y from q)
    injection e with e
    rw [e]
  | .bl x, .int y, v, _, _, h, q => by have e := (show v = .bl x from h).symm.trans (show v = .int y from q); cases e
  | .bl x, .str y, v, _, _, h, q => by have e := (show v = .bl x from h).symm.trans (show v = .str (mkS y) from q); cases e
  | .bl x, .tup l, v, _, _, h, ⟨_, _, e, _⟩ => by have e2 := (show v = .bl x from h).symm.trans e; cases e2
  | .bl x, .lst l, v, _, _, h, ⟨_, _, e, _⟩ => by have e2 := (show v = .bl x from h).symm.trans e; cases e2
  | .int x, .non, v, _, _, h, q => by have e := (show v = .int x from h).symm.trans (show v = .non from q); cases e
  | .int x, .bl y, v, _, _, h, q => by have e := (show v = .int x from h).symm.trans (show v = .bl y from q); cases e
  | .int x, .int y, v, _, _, h, q => by
    have e := (show v = .int x from h).symm.trans (show v = .int y from q)
    injection e with e
    rw [e]
  | .int x, .str y, v, _, _, h, q => by have e := (show v = .int x from h).symm.trans (show v = .str (mkS y) from q); cases e
  | .int x, .tup l, v, _, _, h, ⟨_, _, e, _⟩ => by have e2 := (show v = .int x from h).symm.trans e; cases e2
  | .int x, .lst l, v, _, _, h, ⟨_, _, e, _⟩ => by have e2 := (show v = .int x from h).symm.trans e; cases e2
  | .str x, .non, v, _, _, h, q => by have e := (show v = .str (mkS x) from h).symm.trans (show v = .non from q); cases e
  | .str x, .bl y, v, _, _, h, q => by have e := (show v = .str (mkS x) from h).symm.trans (show v = .bl y from q); cases e
  | .str x, .int y, v, _, _, h, q => by have e := (show v = .str (mkS x) from h).symm.trans (show v = .int y from q); cases e
  | .str x, .str y, v, _, _, h, q => by
    have e := (show v = .str (mkS x) from h).symm.trans (show v = .str (mkS y) from q)
    injection e with e
    rw [mkS_inj e]
  | .str x, .tup l, v, _, _, h, ⟨_, _, e, _⟩ => by have e2 := (show v = .str (mkS x) from h).symm.trans e; cases e2
  | .str x, .lst l, v, _, _, h, ⟨_, _, e, _⟩ => by have e2 := (show v = .str (mkS x) from h).symm.trans e; cases e2
  | .tup l, .non, v, _, _, ⟨_, _, e, _⟩, q => by have e2 := e.symm.trans (show v = .non from q); cases e2
  | .tup l, .bl y, v, _, _, ⟨_, _, e, _⟩, q => by have e2 := e.symm.trans (show v = .bl y from q); cases e2
  | .tup l, .int y, v, _, _, ⟨_, _, e, _⟩, q => by have e2 := e.symm.trans (show v = .int y from q); cases e2
  | .tup l, .str y, v, _, _, ⟨_, _, e, _⟩, q => by have e2 := e.symm.trans (show v = .str (mkS y) from q); cases e2
  | .lst l, .non, v, _, _, ⟨_, _, e, _⟩, q => by have e2 := e.symm.trans (show v = .non from q); cases e2
  | .lst l, .bl y, v, _, _, ⟨_, _, e, _⟩, q => by have e2 := e.symm.trans (show v = .bl y from q); cases e2
  | .lst l, .int y, v, _, _, ⟨_, _, e, _⟩, q => by have e2 := e.symm.trans (show v = .int y from q); cases e2
  | .lst l, .str y, v, _, _, ⟨_, _, e, _⟩, q => by have e2 := e.symm.trans (show v = .str (mkS y) from q); cases e2
  | .tup l, .tup m, v, p1, p2, ⟨a, vs, e, g, _, r⟩, ⟨a2, vs2, e2, g2, _, r2⟩ => by
    rw [e] at e2; cases e2; rw [g] at g2; cases g2
    rw [reps_inj l m vs p1 p2 r r2]
  | .lst l, .lst m, v, p1, p2, ⟨a, vs, e, g, _, r⟩, ⟨a2, vs2, e2, g2, _, r2⟩ => by
    rw [e] at e2; cases e2; cases rd_inj g g2
    rw [reps_inj l m vs p1 p2 r r2]
  | .tup l, .lst m, v, p1, p2, ⟨a, vs, e, g, _, r⟩, ⟨a2, vs2, e2, g2, _, r2⟩ => by
    rw [e] at e2; cases e2
    rcases g2 with g2 | ⟨_, g2⟩ <;> (rw [g] at g2; cases g2)
  | .lst l, .tup m, v, p1, p2, ⟨a, vs, e, g, _, r⟩, ⟨a2, vs2, e2, g2, _, r2⟩ => by
    rw [e] at e2; cases e2
    rcases g with g | ⟨_, g⟩ <;> (rw [g] at g2; cases g2)
  | .dct _ _, _, _, p, _, _, _ => by cases p
  | .opq _, _, _, p, _, _, _ => by cases p
  | .exc _ _, _, _, p, _, _, _ => by cases p
  | .fd _ _ _, _, _, p, _, _, _ => by cases p
  | _, .dct _ _, _, _, p, _, _ => by cases p
  | _, .opq _, _, _, p, _, _ => by cases p
  | _, .exc _ _, _, _, p, _, _ => by cases p
  | _, .fd _ _ _, _, _, p, _, _ => by cases p
theorem reps_inj {H : Hp} : ∀ (a b : List D) (v : List V), D.plains a = true → D.plains b = true → Reps H a v → Reps H b v → a = b
  | [], [], _, _, _, _, _ => rfl
  | [], _ :: _, _, _, _, h, ⟨_, _, e, _⟩ => by rw [show _ = [] from h] at e; cases e
  | _ :: _, [], _, _, _, ⟨_, _, e, _⟩, h => by rw [show _ = [] from h] at e; cases e
  | a :: r, b :: q, _, p1, p2, ⟨v, vs, e, h, k⟩, ⟨v2, vs2, e2, h2, k2⟩ => by
    simp only [D.plains, Bool.and_eq_true] at p1 p2
    rw [e] at e2; cases e2
    rw [rep_inj a b v p1.1 p2.1 h h2, reps_inj r q vs p1.2 p2.2 k k2]
end
mutual
theorem eqv_refl : ∀ a : D, a.plain = true → D.eqv a a = true
  | .non, _ => rfl
  | .bl b, _ => by simp [D.eqv]
  | .int b, _ => by simp [D.eqv]
  | .str b, _ => by simp [D.eqv]
  | .tup l, p => eqvs_refl l p
  | .lst l, p => eqvs_refl l p
  | .dct _ _, p => by cases p
  | .opq _, p => by cases p
  | .exc _ _, p => by cases p
  | .fd _ _ _, p => by cases p
theorem eqvs_refl : ∀ a : List D, D.plains a = true → D.eqvs a a = true
  | [], _ => rfl
  | a :: r, p => by
    simp only [D.plains, Bool.and_eq_true] at p
    simp only [D.eqvs, eqv_refl a p.1, eqvs_refl r p.2, Bool.and_self]
end
def eqAtJ (l m : List D) (j : Nat) : Bool := D.eqv (l.getD j .non) (m.getD j .non)
theorem all_range_succ (n : Nat) (f : Nat → Bool) : (List.range (n + 1)).all f = (f 0 && (List.range n).all fun j => f (j + 1)) := by
  rw [List.range_succ_eq_map, List.all_cons, List.all_map]; rfl
theorem eqvs_eq : ∀ l m : List D, ((List.range (min l.length m.length)).all (eqAtJ l m) && l.length == m.length) = D.eqvs l m
  | [], [] => rfl
  | [], _ :: _ => rfl
  | _ :: _, [] => rfl
  | a :: r, b :: q => by
    have ih := eqvs_eq r q
    rw [List.length_cons, List.length_cons, show min (r.length + 1) (q.length + 1) = min r.length q.length + 1 by omega, all_range_succ]
    show ((D.eqv a b && (List.range (min r.length q.length)).all fun j => eqAtJ r q j) && (r.length + 1 == q.length + 1)) = (D.eqv a b && D.eqvs r q)
    rw [← ih, Bool.and_assoc]
    congr 2
    by_cases h : r.length = q.length
    · rw [h, beq_self_eq_true, beq_self_eq_true]
    · rw [beq_eq_false_iff_ne.mpr h, beq_eq_false_iff_ne.mpr (by omega)]
section
variable {X : Cx} {pins : List (Addr × Obj)} {σ : St} {H : Hp} {s : Shared}
theorem at_lst (I : Inv X pins σ H s) {l : List D} {x : V} {u : Value} (h : Rep H (.lst l) x) (r : RelV x u) : ∃ a vs its, x = .ref a ∧ u = .ref a ∧ s.heap.IsList a (its : List Value).toArray ∧ Vals vs its ∧ Reps H l vs ∧ l.length = its.length := by
  obtain ⟨a, vs, e, g, z, q⟩ := h
  subst e
  obtain ⟨its, rv, pl, _⟩ := I.list (.inl g)
  exact ⟨a, vs, its, rfl, r, pl.isList, rv, q, q.length.trans rv.length⟩
theorem at_tup (I : Inv X pins σ H s) {l : List D} {x : V} {u : Value} (h : Rep H (.tup l) x) (r : RelV x u) : ∃ a vs its, x = .ref a ∧ u = .ref a ∧ s.heap.IsTuple a (its : List Value).toArray ∧ Vals vs its ∧ Reps H l vs ∧ l.length = its.length := by
  obtain ⟨a, vs, e, g, z, q⟩ := h
  subst e
  obtain ⟨its, rv, pl, _⟩ := I.tuple (.inl (.inl g))
  exact ⟨a, vs, its, rfl, r, pl, rv, q, q.length.trans rv.length⟩
theorem in1_units (A : Around) : A.in1.units = A.units + 1 := rfl
mutual
theorem eqAt_d (I : Inv X pins σ H s) : ∀ (a b : D), ∀ (A : Around) (x y : V) (u w : Value), a.plain = true → b.plain = true → Rep H a x → Rep H b y → RelV x u → RelV y w → A.units + min a.dep b.dep < cLine → EqAt A s u w (D.eqv a b)

  | .non, .non => by
    intro A x y u w p1 p2 h k r1 r2 hu
    cases (show x = .non from h)
    cases r1
    cases (show y = .non from k)
    cases r2
    exact EqAt.same _
  | .non, .bl q => by
    intro A x y u w p1 p2 h k r1 r2 hu
    cases (show x = .non from h)
    cases r1
    cases (show y = .bl _ from k)
    cases r2
    exact EqAt.none_bool _
  | .non, .int q => by
    intro A x y u w p1 p2 h k r1 r2 hu
    cases (show x = .non from h)
    cases r1
    cases (show y = .int _ from k)
    obtain ⟨t2, rfl⟩ := r2
    exact EqAt.none_int _ t2
  | .non, .str q => by
    intro A x y u w p1 p2 h k r1 r2 hu
    cases (show x = .non from h)
    cases r1
    cases (show y = .str _ from k)
    obtain ⟨t2, rfl⟩ := r2
    exact EqAt.none_str _ t2
  | .non, .tup l => by
    intro A x y u w p1 p2 h k r1 r2 hu
    cases (show x = .non from h)
    cases r1
    obtain ⟨_, _, _, rfl, rfl, hl, _⟩ := at_tup I k r2
    exact EqAt.none_tuple hl (by omega)
  | .non, .lst l => by
    intro A x y u w p1 p2 h k r1 r2 hu
    cases (show x = .non from h)
    cases r1
    obtain ⟨_, _, _, rfl, rfl, hl, _⟩ := at_lst I k r2
    exact EqAt.none_list hl (by omega)
  | .bl p, .non => by
    intro A x y u w p1 p2 h k r1 r2 hu
    cases (show x = .bl _ from h)
    cases r1
    cases (show y = .non from k)
    cases r2
    exact EqAt.bool_none _
  | .bl p, .bl q => by
    intro A x y u w p1 p2 h k r1 r2 hu
    cases (show x = .bl _ from h)
    cases r1
    cases (show y = .bl _ from k)
    cases r2
    exact EqAt.bool_bool _ _
  | .bl p, .int q => by
    intro A x y u w p1 p2 h k r1 r2 hu
    cases (show x = .bl _ from h)
    cases r1
    cases (show y = .int _ from k)
    obtain ⟨t2, rfl⟩ := r2
    exact EqAt.bool_int _ _ t2
  | .bl p, .str q => by
    intro A x y u w p1 p2 h k r1 r2 hu
    cases (show x = .bl _ from h)
    cases r1
    cases (show y = .str _ from k)
    obtain ⟨t2, rfl⟩ := r2
    exact EqAt.bool_str _ _ t2
  | .bl p, .tup l => by
    intro A x y u w p1 p2 h k r1 r2 hu
    cases (show x = .bl _ from h)
    cases r1
    obtain ⟨_, _, _, rfl, rfl, hl, _⟩ := at_tup I k r2
    exact EqAt.bool_tuple _ hl (by omega)
  | .bl p, .lst l => by
    intro A x y u w p1 p2 h k r1 r2 hu
    cases (show x = .bl _ from h)
    cases r1
    obtain ⟨_, _, _, rfl, rfl, hl, _⟩ := at_lst I k r2
    exact EqAt.bool_list _ hl (by omega)
  | .int p, .non => by
    intro A x y u w p1 p2 h k r1 r2 hu
    cases (show x = .int _ from h)
    obtain ⟨t1, rfl⟩ := r1
    cases (show y = .non from k)
    cases r2
    exact EqAt.int_none _ t1
  | .int p, .bl q => by
    intro A x y u w p1 p2 h k r1 r2 hu
    cases (show x = .int _ from h)
    obtain ⟨t1, rfl⟩ := r1
    cases (show y = .bl _ from k)
    cases r2
    exact EqAt.int_bool _ t1 _
  | .int p, .int q => by
    intro A x y u w p1 p2 h k r1 r2 hu
    cases (show x = .int _ from h)
    obtain ⟨t1, rfl⟩ := r1
    cases (show y = .int _ from k)
    obtain ⟨t2, rfl⟩ := r2
    exact EqAt.int_int _ t1 _ t2
  | .int p, .str q => by
    intro A x y u w p1 p2 h k r1 r2 hu
    cases (show x = .int _ from h)
    obtain ⟨t1, rfl⟩ := r1
    cases (show y = .str _ from k)
    obtain ⟨t2, rfl⟩ := r2
    exact EqAt.int_str _ t1 _ t2
  | .int p, .tup l => by
    intro A x y u w p1 p2 h k r1 r2 hu
    cases (show x = .int _ from h)
    obtain ⟨t1, rfl⟩ := r1
    obtain ⟨_, _, _, rfl, rfl, hl, _⟩ := at_tup I k r2
    exact EqAt.int_tuple _ t1 hl (by omega)
  | .int p, .lst l => by
    intro A x y u w p1 p2 h k r1 r2 hu
    cases (show x = .int _ from h)
    obtain ⟨t1, rfl⟩ := r1
    obtain ⟨_, _, _, rfl, rfl, hl, _⟩ := at_lst I k r2
    exact EqAt.int_list _ t1 hl (by omega)
  | .str p, .non => by
    intro A x y u w p1 p2 h k r1 r2 hu
    cases (show x = .str _ from h)
    obtain ⟨t1, rfl⟩ := r1
    cases (show y = .non from k)
    cases r2
    exact EqAt.str_none _ t1
  | .str p, .bl q => by
    intro A x y u w p1 p2 h k r1 r2 hu
    cases (show x = .str _ from h)
    obtain ⟨t1, rfl⟩ := r1
    cases (show y = .bl _ from k)
    cases r2
    exact EqAt.str_bool _ t1 _
  | .str p, .int q => by
    intro A x y u w p1 p2 h k r1 r2 hu
    cases (show x = .str _ from h)
    obtain ⟨t1, rfl⟩ := r1
    cases (show y = .int _ from k)
    obtain ⟨t2, rfl⟩ := r2
    exact EqAt.str_int _ t1 _ t2
  | .str p, .str q => by
    intro A x y u w p1 p2 h k r1 r2 hu
    cases (show x = .str _ from h)
    obtain ⟨t1, rfl⟩ := r1
    cases (show y = .str _ from k)
    obtain ⟨t2, rfl⟩ := r2
    show EqAt A s _ _ (p == q)
    rw [← mkS_beq]
    exact EqAt.str_str _ t1 _ t2
  | .str p, .tup l => by
    intro A x y u w p1 p2 h k r1 r2 hu
    cases (show x = .str _ from h)
    obtain ⟨t1, rfl⟩ := r1
    obtain ⟨_, _, _, rfl, rfl, hl, _⟩ := at_tup I k r2
    exact EqAt.str_tuple _ t1 hl (by omega)
  | .str p, .lst l => by
    intro A x y u w p1 p2 h k r1 r2 hu
    cases (show x = .str _ from h)
    obtain ⟨t1, rfl⟩ := r1
    obtain ⟨_, _, _, rfl, rfl, hl, _⟩ := at_lst I k r2
    exact EqAt.str_list _ t1 hl (by omega)
  | .tup l, .non => by
    intro A x y u w p1 p2 h k r1 r2 hu
    cases (show y = .non from k)
    cases r2
    obtain ⟨_, _, _, rfl, rfl, hl, _⟩ := at_tup I h r1
    exact EqAt.tuple_none hl (by omega)
  | .tup l, .bl q => by
    intro A x y u w p1 p2 h k r1 r2 hu
    cases (show y = .bl _ from k)
    cases r2
    obtain ⟨_, _, _, rfl, rfl, hl, _⟩ := at_tup I h r1
    exact EqAt.tuple_bool _ hl (by omega)
  | .tup l, .int q => by
    intro A x y u w p1 p2 h k r1 r2 hu
    cases (show y = .int _ from k)
    obtain ⟨t2, rfl⟩ := r2
    obtain ⟨_, _, _, rfl, rfl, hl, _⟩ := at_tup I h r1
    exact EqAt.tuple_int _ t2 hl (by omega)
  | .tup l, .str q => by
    intro A x y u w p1 p2 h k r1 r2 hu
    cases (show y = .str _ from k)
    obtain ⟨t2, rfl⟩ := r2
    obtain ⟨_, _, _, rfl, rfl, hl, _⟩ := at_tup I h r1
    exact EqAt.tuple_str _ t2 hl (by omega)
  | .lst l, .non => by
    intro A x y u w p1 p2 h k r1 r2 hu
    cases (show y = .non from k)
    cases r2
    obtain ⟨_, _, _, rfl, rfl, hl, _⟩ := at_lst I h r1
    exact EqAt.list_none hl (by omega)
  | .lst l, .bl q => by
    intro A x y u w p1 p2 h k r1 r2 hu
    cases (show y = .bl _ from k)
    cases r2
    obtain ⟨_, _, _, rfl, rfl, hl, _⟩ := at_lst I h r1
    exact EqAt.list_bool _ hl (by omega)
  | .lst l, .int q => by
    intro A x y u w p1 p2 h k r1 r2 hu
    cases (show y = .int _ from k)
    obtain ⟨t2, rfl⟩ := r2
    obtain ⟨_, _, _, rfl, rfl, hl, _⟩ := at_lst I h r1
    exact EqAt.list_int _ t2 hl (by omega)
  | .lst l, .str q => by
    intro A x y u w p1 p2 h k r1 r2 hu
    cases (show y = .str _ from k)
    obtain ⟨t2, rfl⟩ := r2
    obtain ⟨_, _, _, rfl, rfl, hl, _⟩ := at_lst I h r1
    exact EqAt.list_str _ t2 hl (by omega)
  | .tup l, .lst m => by
    intro A x y u w p1 p2 h k r1 r2 hu
    obtain ⟨_, _, _, rfl, rfl, hl, _⟩ := at_tup I h r1
    obtain ⟨_, _, _, rfl, rfl, hm, _⟩ := at_lst I k r2
    exact EqAt.tuple_list hl hm (by omega)
  | .lst l, .tup m => by
    intro A x y u w p1 p2 h k r1 r2 hu
    obtain ⟨_, _, _, rfl, rfl, hl, _⟩ := at_lst I h r1
    obtain ⟨_, _, _, rfl, rfl, hm, _⟩ := at_tup I k r2
    exact EqAt.list_tuple hl hm (by omega)
  | .tup l, .tup m => by
    intro A x y u w p1 p2 h k r1 r2 hu
    obtain ⟨a, vs, its, ea, eu, hl, v1, q1, n1⟩ := at_tup I h r1
    obtain ⟨b, ws, its2, eb, ew, hm, v2, q2, n2⟩ := at_tup I k r2
    by_cases hab : a = b
    · subst hab
      rw [eb, ← ea] at k
      have := rep_inj (.tup l) (.tup m) x p1 p2 h k
      rw [← this, eqv_refl _ p1, eu, ew]
      exact EqAt.same _
    · rw [eu, ew]
      show EqAt A s _ _ (D.eqvs l m)
      rw [← eqvs_eq]
      simp only [D.dep] at hu
      have hA : A.units < cLine := by omega
      have z := EqAt.of_refs hab (RcAt.tuples (e := eqAtJ l m) hl hm hA fun j j1 j2 => by
        have := eqAt_ds I l m A.in1 vs ws its its2 p1 p2 q1 q2 v1 v2 (by rw [in1_units]; omega) j (by simpa using j1) (by simpa using j2)
        simpa using this)
      rw [List.size_toArray, List.size_toArray, ← n1, ← n2] at z
      exact z
  | .lst l, .lst m => by
    intro A x y u w p1 p2 h k r1 r2 hu
    obtain ⟨a, vs, its, ea, eu, hl, v1, q1, n1⟩ := at_lst I h r1
    obtain ⟨b, ws, its2, eb, ew, hm, v2, q2, n2⟩ := at_lst I k r2
    by_cases hab : a = b
    · subst hab
      rw [eb, ← ea] at k
      have := rep_inj (.lst l) (.lst m) x p1 p2 h k
      rw [← this, eqv_refl _ p1, eu, ew]
      exact EqAt.same _
    · rw [eu, ew]
      show EqAt A s _ _ (D.eqvs l m)
      rw [← eqvs_eq]
      simp only [D.dep] at hu
      have hA : A.units < cLine := by omega
      by_cases hn : its.length = its2.length
      · have z := EqAt.of_refs hab (RcAt.lists (e := eqAtJ l m) hl hm (by simpa using hn) hA fun j j1 j2 => by
          have := eqAt_ds I l m A.in1 vs ws its its2 p1 p2 q1 q2 v1 v2 (by rw [in1_units]; omega) j (by simpa using j1) (by simpa using j2)
          simpa using this)
        rw [List.size_toArray, ← n1] at z
        rw [show l.length = m.length by omega, beq_self_eq_true, Bool.and_true, Nat.min_self, ← show l.length = m.length by omega]
        exact z
      · rw [beq_eq_false_iff_ne.mpr (by omega : l.length ≠ m.length), Bool.and_false]
        exact EqAt.of_refs hab (RcAt.lists_lengths hl hm (by simpa using hn) hA)
  | .dct _ _, _ => by intro A x y u w p1 p2 h k r1 r2 hu; cases p1
  | .opq _, _ => by intro A x y u w p1 p2 h k r1 r2 hu; cases p1
  | .exc _ _, _ => by intro A x y u w p1 p2 h k r1 r2 hu; cases p1
  | .fd _ _ _, _ => by intro A x y u w p1 p2 h k r1 r2 hu; cases p1
  | _, .dct _ _ => by intro A x y u w p1 p2 h k r1 r2 hu; cases p2
  | _, .opq _ => by intro A x y u w p1 p2 h k r1 r2 hu; cases p2
  | _, .exc _ _ => by intro A x y u w p1 p2 h k r1 r2 hu; cases p2
  | _, .fd _ _ _ => by intro A x y u w p1 p2 h k r1 r2 hu; cases p2
theorem eqAt_ds (I : Inv X pins σ H s) : ∀ (l m : List D) (A : Around) (xs ys : List V) (us ws : List Value), D.plains l = true → D.plains m = true → Reps H l xs → Reps H m ys → Vals xs us → Vals ys ws → A.units + min (D.deps l) (D.deps m) < cLine →
    ∀ j (h1 : j < us.length) (h2 : j < ws.length), EqAt A s us[j] ws[j] (eqAtJ l m j)
  | [], _, _, _, _, _, _, _, _, h, _, v1, _, _, j, h1, _ => by
    cases (show _ = [] from h); cases v1; exact absurd h1 (Nat.not_lt_zero _)
  | _ :: _, [], _, _, _, _, _, _, _, _, h, _, v2, _, j, _, h2 => by
    cases (show _ = [] from h); cases v2; exact absurd h2 (Nat.not_lt_zero _)
  | a :: l, b :: m, A, _, _, _, _, p1, p2, ⟨x, xs, e1, q1, r1⟩, ⟨y, ys, e2, q2, r2⟩, v1, v2, hu, j, h1, h2 => by
    subst e1; subst e2
    simp only [D.plains, Bool.and_eq_true] at p1 p2
    simp only [D.deps] at hu
    cases v1 with
    | cons z1 v1 =>
      cases v2 with
      | cons z2 v2 =>
        cases j with
        | zero => exact eqAt_d I a b A x y _ _ p1.1 p2.1 q1 q2 z1 z2 (by omega)
        | succ j => exact eqAt_ds I l m A xs ys _ _ p1.2 p2.2 r1 r2 v1 v2 (by omega) j (Nat.lt_of_succ_lt_succ h1) (Nat.lt_of_succ_lt_succ h2)
end

theorem rcEq_d (I : Inv X pins σ H s) : ∀ (a b : D), ∀ (A : Around) (x y : V) (u w : Value), a.plain = true → b.plain = true → Rep H a x → Rep H b y → RelV x u → RelV y w → A.units + min a.dep b.dep < cLine → RcAt A s u w (D.eqv a b)
  | .non, .non => by
    intro A x y u w p1 p2 h k r1 r2 hu
    cases (show x = .non from h)
    cases r1
    cases (show y = .non from k)
    cases r2
    exact RcAt.none_none
  | .non, .bl q => by
    intro A x y u w p1 p2 h k r1 r2 hu
    cases (show x = .non from h)
    cases r1
    cases (show y = .bl _ from k)
    cases r2
    exact RcAt.none_bool _
  | .non, .int q => by
    intro A x y u w p1 p2 h k r1 r2 hu
    cases (show x = .non from h)
    cases r1
    cases (show y = .int _ from k)
    obtain ⟨t2, rfl⟩ := r2
    exact RcAt.none_int _ t2
  | .non, .str q => by
    intro A x y u w p1 p2 h k r1 r2 hu
    cases (show x = .non from h)
    cases r1
    cases (show y = .str _ from k)
    obtain ⟨t2, rfl⟩ := r2
    exact RcAt.none_str _ t2
  | .non, .tup l => by
    intro A x y u w p1 p2 h k r1 r2 hu
    cases (show x = .non from h)
    cases r1
    obtain ⟨_, _, _, rfl, rfl, hl, _⟩ := at_tup I k r2
    exact RcAt.none_tuple hl (by omega)
  | .non, .lst l => by
    intro A x y u w p1 p2 h k r1 r2 hu
    cases (show x = .non from h)
    cases r1
    obtain ⟨_, _, _, rfl, rfl, hl, _⟩ := at_lst I k r2
    exact RcAt.none_list hl (by omega)
  | .bl p, .non => by
    intro A x y u w p1 p2 h k r1 r2 hu
    cases (show x = .bl _ from h)
    cases r1
    cases (show y = .non from k)
    cases r2
    exact RcAt.bool_none _
  | .bl p, .bl q => by
    intro A x y u w p1 p2 h k r1 r2 hu
    cases (show x = .bl _ from h)
    cases r1
    cases (show y = .bl _ from k)
    cases r2
    exact RcAt.bool_bool _ _
  | .bl p, .int q => by
    intro A x y u w p1 p2 h k r1 r2 hu
    cases (show x = .bl _ from h)
    cases r1
    cases (show y = .int _ from k)
    obtain ⟨t2, rfl⟩ := r2
    exact RcAt.bool_int _ _ t2
  | .bl p, .str q => by
    intro A x y u w p1 p2 h k r1 r2 hu
    cases (show x = .bl _ from h)
    cases r1
    cases (show y = .str _ from k)
    obtain ⟨t2, rfl⟩ := r2
    exact RcAt.bool_str _ _ t2
  | .bl p, .tup l => by
    intro A x y u w p1 p2 h k r1 r2 hu
    cases (show x = .bl _ from h)
    cases r1
    obtain ⟨_, _, _, rfl, rfl, hl, _⟩ := at_tup I k r2
    exact RcAt.bool_tuple _ hl (by omega)
  | .bl p, .lst l => by
    intro A x y u w p1 p2 h k r1 r2 hu
    cases (show x = .bl _ from h)
    cases r1
    obtain ⟨_, _, _, rfl, rfl, hl, _⟩ := at_lst I k r2
    exact RcAt.bool_list _ hl (by omega)
  | .int p, .non => by
    intro A x y u w p1 p2 h k r1 r2 hu
    cases (show x = .int _ from h)
    obtain ⟨t1, rfl⟩ := r1
    cases (show y = .non from k)
    cases r2
    exact RcAt.int_none _ t1
  | .int p, .bl q => by
    intro A x y u w p1 p2 h k r1 r2 hu
    cases (show x = .int _ from h)
    obtain ⟨t1, rfl⟩ := r1
    cases (show y = .bl _ from k)
    cases r2
    exact RcAt.int_bool _ t1 _
  | .int p, .int q => by
    intro A x y u w p1 p2 h k r1 r2 hu
    cases (show x = .int _ from h)
    obtain ⟨t1, rfl⟩ := r1
    cases (show y = .int _ from k)
    obtain ⟨t2, rfl⟩ := r2
    exact RcAt.int_int _ t1 _ t2
  | .int p, .str q => by
    intro A x y u w p1 p2 h k r1 r2 hu
    cases (show x = .int _ from h)
    obtain ⟨t1, rfl⟩ := r1
    cases (show y = .str _ from k)
    obtain ⟨t2, rfl⟩ := r2
    exact RcAt.int_str _ t1 _ t2
  | .int p, .tup l => by
    intro A x y u w p1 p2 h k r1 r2 hu
    cases (show x = .int _ from h)
    obtain ⟨t1, rfl⟩ := r1
    obtain ⟨_, _, _, rfl, rfl, hl, _⟩ := at_tup I k r2
    exact RcAt.int_tuple _ t1 hl (by omega)
  | .int p, .lst l => by
    intro A x y u w p1 p2 h k r1 r2 hu
    cases (show x = .int _ from h)
    obtain ⟨t1, rfl⟩ := r1
    obtain ⟨_, _, _, rfl, rfl, hl, _⟩ := at_lst I k r2
    exact RcAt.int_list _ t1 hl (by omega)
  | .str p, .non => by
    intro A x y u w p1 p2 h k r1 r2 hu
    cases (show x = .str _ from h)
    obtain ⟨t1, rfl⟩ := r1
    cases (show y = .non from k)
    cases r2
    exact RcAt.str_none _ t1
  | .str p, .bl q => by
    intro A x y u w p1 p2 h k r1 r2 hu
    cases (show x = .str _ from h)
    obtain ⟨t1, rfl⟩ := r1
    cases (show y = .bl _ from k)
    cases r2
    exact RcAt.str_bool _ t1 _
  | .str p, .int q => by
    intro A x y u w p1 p2 h k r1 r2 hu
    cases (show x = .str _ from h)
    obtain ⟨t1, rfl⟩ := r1
    cases (show y = .int _ from k)
    obtain ⟨t2, rfl⟩ := r2
    exact RcAt.str_int _ t1 _ t2
  | .str p, .str q => by
    intro A x y u w p1 p2 h k r1 r2 hu
    cases (show x = .str _ from h)
    obtain ⟨t1, rfl⟩ := r1
    cases (show y = .str _ from k)
    obtain ⟨t2, rfl⟩ := r2
    show RcAt A s _ _ (p == q)
    rw [← mkS_beq]
    exact RcAt.str_str _ t1 _ t2
  | .str p, .tup l => by
    intro A x y u w p1 p2 h k r1 r2 hu
    cases (show x = .str _ from h)
    obtain ⟨t1, rfl⟩ := r1
    obtain ⟨_, _, _, rfl, rfl, hl, _⟩ := at_tup I k r2
    exact RcAt.str_tuple _ t1 hl (by omega)
  | .str p, .lst l => by
    intro A x y u w p1 p2 h k r1 r2 hu
    cases (show x = .str _ from h)
    obtain ⟨t1, rfl⟩ := r1
    obtain ⟨_, _, _, rfl, rfl, hl, _⟩ := at_lst I k r2
    exact RcAt.str_list _ t1 hl (by omega)
  | .tup l, .non => by
    intro A x y u w p1 p2 h k r1 r2 hu
    cases (show y = .non from k)
    cases r2
    obtain ⟨_, _, _, rfl, rfl, hl, _⟩ := at_tup I h r1
    exact RcAt.tuple_none hl (by omega)
  | .tup l, .bl q => by
    intro A x y u w p1 p2 h k r1 r2 hu
    cases (show y = .bl _ from k)
    cases r2
    obtain ⟨_, _, _, rfl, rfl, hl, _⟩ := at_tup I h r1
    exact RcAt.tuple_bool _ hl (by omega)
  | .tup l, .int q => by
    intro A x y u w p1 p2 h k r1 r2 hu
    cases (show y = .int _ from k)
    obtain ⟨t2, rfl⟩ := r2
    obtain ⟨_, _, _, rfl, rfl, hl, _⟩ := at_tup I h r1
    exact RcAt.tuple_int _ t2 hl (by omega)
  | .tup l, .str q => by
    intro A x y u w p1 p2 h k r1 r2 hu
    cases (show y = .str _ from k)
    obtain ⟨t2, rfl⟩ := r2
    obtain ⟨_, _, _, rfl, rfl, hl, _⟩ := at_tup I h r1
    exact RcAt.tuple_str _ t2 hl (by omega)
  | .lst l, .non => by
    intro A x y u w p1 p2 h k r1 r2 hu
    cases (show y = .non from k)
    cases r2
    obtain ⟨_, _, _, rfl, rfl, hl, _⟩ := at_lst I h r1
    exact RcAt.list_none hl (by omega)
  | .lst l, .bl q => by
    intro A x y u w p1 p2 h k r1 r2 hu
    cases (show y = .bl _ from k)
    cases r2
    obtain ⟨_, _, _, rfl, rfl, hl, _⟩ := at_lst I h r1
    exact RcAt.list_bool _ hl (by omega)
  | .lst l, .int q => by
    intro A x y u w p1 p2 h k r1 r2 hu
    cases (show y = .int _ from k)
    obtain ⟨t2, rfl⟩ := r2
    obtain ⟨_, _, _, rfl, rfl, hl, _⟩ := at_lst I h r1
    exact RcAt.list_int _ t2 hl (by omega)
  | .lst l, .str q => by
    intro A x y u w p1 p2 h k r1 r2 hu
    cases (show y = .str _ from k)
    obtain ⟨t2, rfl⟩ := r2
    obtain ⟨_, _, _, rfl, rfl, hl, _⟩ := at_lst I h r1
    exact RcAt.list_str _ t2 hl (by omega)
  | .tup l, .lst m => by
    intro A x y u w p1 p2 h k r1 r2 hu
    obtain ⟨_, _, _, rfl, rfl, hl, _⟩ := at_tup I h r1
    obtain ⟨_, _, _, rfl, rfl, hm, _⟩ := at_lst I k r2
    exact RcAt.tuple_list hl hm (by omega)
  | .lst l, .tup m => by
    intro A x y u w p1 p2 h k r1 r2 hu
    obtain ⟨_, _, _, rfl, rfl, hl, _⟩ := at_lst I h r1
    obtain ⟨_, _, _, rfl, rfl, hm, _⟩ := at_tup I k r2
    exact RcAt.list_tuple hl hm (by omega)
  | .tup l, .tup m => by
    intro A x y u w p1 p2 h k r1 r2 hu
    obtain ⟨a, vs, its, ea, eu, hl, v1, q1, n1⟩ := at_tup I h r1
    obtain ⟨b, ws, its2, eb, ew, hm, v2, q2, n2⟩ := at_tup I k r2
    rw [eu, ew]
    show RcAt A s _ _ (D.eqvs l m)
    rw [← eqvs_eq]
    simp only [D.dep] at hu
    have hA : A.units < cLine := by omega
    have z := RcAt.tuples (e := eqAtJ l m) hl hm hA fun j j1 j2 => by
      have := eqAt_ds I l m A.in1 vs ws its its2 p1 p2 q1 q2 v1 v2 (by rw [in1_units]; omega) j (by simpa using j1) (by simpa using j2)
      simpa using this
    rw [List.size_toArray, List.size_toArray, ← n1, ← n2] at z
    exact z
  | .lst l, .lst m => by
    intro A x y u w p1 p2 h k r1 r2 hu
    obtain ⟨a, vs, its, ea, eu, hl, v1, q1, n1⟩ := at_lst I h r1
    obtain ⟨b, ws, its2, eb, ew, hm, v2, q2, n2⟩ := at_lst I k r2
    rw [eu, ew]
    show RcAt A s _ _ (D.eqvs l m)
    rw [← eqvs_eq]
    simp only [D.dep] at hu
    have hA : A.units < cLine := by omega
    by_cases hn : its.length = its2.length
    · have z := RcAt.lists (e := eqAtJ l m) hl hm (by simpa using hn) hA fun j j1 j2 => by
        have := eqAt_ds I l m A.in1 vs ws its its2 p1 p2 q1 q2 v1 v2 (by rw [in1_units]; omega) j (by simpa using j1) (by simpa using j2)
        simpa using this
      rw [List.size_toArray, ← n1] at z
      rw [show l.length = m.length by omega, beq_self_eq_true, Bool.and_true, Nat.min_self, ← show l.length = m.length by omega]
      exact z
    · rw [beq_eq_false_iff_ne.mpr (by omega : l.length ≠ m.length), Bool.and_false]
      exact RcAt.lists_lengths hl hm (by simpa using hn) hA
  | .dct _ _, _ => by intro A x y u w p1 p2 h k r1 r2 hu; cases p1
  | .opq _, _ => by intro A x y u w p1 p2 h k r1 r2 hu; cases p1
  | .exc _ _, _ => by intro A x y u w p1 p2 h k r1 r2 hu; cases p1
  | .fd _ _ _, _ => by intro A x y u w p1 p2 h k r1 r2 hu; cases p1
  | _, .dct _ _ => by intro A x y u w p1 p2 h k r1 r2 hu; cases p2
  | _, .opq _ => by intro A x y u w p1 p2 h k r1 r2 hu; cases p2
  | _, .exc _ _ => by intro A x y u w p1 p2 h k r1 r2 hu; cases p2
  | _, .fd _ _ _ => by intro A x y u w p1 p2 h k r1 r2 hu; cases p2
theorem rcNe_d (I : Inv X pins σ H s) : ∀ (a b : D), ∀ (A : Around) (x y : V) (u w : Value), a.plain = true → b.plain = true → Rep H a x → Rep H b y → RelV x u → RelV y w → A.units + min a.dep b.dep < cLine → RcNeAt A s u w (!(D.eqv a b))
  | .non, .non => by
    intro A x y u w p1 p2 h k r1 r2 hu
    cases (show x = .non from h)
    cases r1
    cases (show y = .non from k)
    cases r2
    exact RcNeAt.none_none
  | .non, .bl q => by
    intro A x y u w p1 p2 h k r1 r2 hu
    cases (show x = .non from h)
    cases r1
    cases (show y = .bl _ from k)
    cases r2
    exact RcNeAt.none_bool _
  | .non, .int q => by
    intro A x y u w p1 p2 h k r1 r2 hu
    cases (show x = .non from h)
    cases r1
    cases (show y = .int _ from k)
    obtain ⟨t2, rfl⟩ := r2
    exact RcNeAt.none_int _ t2
  | .non, .str q => by
    intro A x y u w p1 p2 h k r1 r2 hu
    cases (show x = .non from h)
    cases r1
    cases (show y = .str _ from k)
    obtain ⟨t2, rfl⟩ := r2
    exact RcNeAt.none_str _ t2
  | .non, .tup l => by
    intro A x y u w p1 p2 h k r1 r2 hu
    cases (show x = .non from h)
    cases r1
    obtain ⟨_, _, _, rfl, rfl, hl, _⟩ := at_tup I k r2
    exact RcNeAt.none_tuple hl (by omega)
  | .non, .lst l => by
    intro A x y u w p1 p2 h k r1 r2 hu
    cases (show x = .non from h)
    cases r1
    obtain ⟨_, _, _, rfl, rfl, hl, _⟩ := at_lst I k r2
    exact RcNeAt.none_list hl (by omega)
  | .bl p, .non => by
    intro A x y u w p1 p2 h k r1 r2 hu
    cases (show x = .bl _ from h)
    cases r1
    cases (show y = .non from k)
    cases r2
    exact RcNeAt.bool_none _
  | .bl p, .bl q => by
    intro A x y u w p1 p2 h k r1 r2 hu
    cases (show x = .bl _ from h)
    cases r1
    cases (show y = .bl _ from k)
    cases r2
    exact RcNeAt.bool_bool _ _
  | .bl p, .int q => by
    intro A x y u w p1 p2 h k r1 r2 hu
    cases (show x = .bl _ from h)
    cases r1
    cases (show y = .int _ from k)
    obtain ⟨t2, rfl⟩ := r2
    exact RcNeAt.bool_int _ _ t2
  | .bl p, .str q => by
    intro A x y u w p1 p2 h k r1 r2 hu
    cases (show x = .bl _ from h)
    cases r1
    cases (show y = .str _ from k)
    obtain ⟨t2, rfl⟩ := r2
    exact RcNeAt.bool_str _ _ t2
  | .bl p, .tup l => by
    intro A x y u w p1 p2 h k r1 r2 hu
    cases (show x = .bl _ from h)
    cases r1
    obtain ⟨_, _, _, rfl, rfl, hl, _⟩ := at_tup I k r2
    exact RcNeAt.bool_tuple _ hl (by omega)
  | .bl p, .lst l => by
    intro A x y u w p1 p2 h k r1 r2 hu
    cases (show x = .bl _ from h)
    cases r1
    obtain ⟨_, _, _, rfl, rfl, hl, _⟩ := at_lst I k r2
    exact RcNeAt.bool_list _ hl (by omega)
  | .int p, .non => by
    intro A x y u w p1 p2 h k r1 r2 hu
    cases (show x = .int _ from h)
    obtain ⟨t1, rfl⟩ := r1
    cases (show y = .non from k)
    cases r2
    exact RcNeAt.int_none _ t1
  | .int p, .bl q => by
    intro A x y u w p1 p2 h k r1 r2 hu
    cases (show x = .int _ from h)
    obtain ⟨t1, rfl⟩ := r1
    cases (show y = .bl _ from k)
    cases r2
    exact RcNeAt.int_bool _ t1 _
  | .int p, .int q => by
    intro A x y u w p1 p2 h k r1 r2 hu
    cases (show x = .int _ from h)
    obtain ⟨t1, rfl⟩ := r1
    cases (show y = .int _ from k)
    obtain ⟨t2, rfl⟩ := r2
    exact RcNeAt.int_int _ t1 _ t2
  | .int p, .str q => by
    intro A x y u w p1 p2 h k r1 r2 hu
    cases (show x = .int _ from h)
    obtain ⟨t1, rfl⟩ := r1
    cases (show y = .str _ from k)
    obtain ⟨t2, rfl⟩ := r2
    exact RcNeAt.int_str _ t1 _ t2
  | .int p, .tup l => by
    intro A x y u w p1 p2 h k r1 r2 hu
    cases (show x = .int _ from h)
    obtain ⟨t1, rfl⟩ := r1
    obtain ⟨_, _, _, rfl, rfl, hl, _⟩ := at_tup I k r2
    exact RcNeAt.int_tuple _ t1 hl (by omega)
  | .int p, .lst l => by
    intro A x y u w p1 p2 h k r1 r2 hu
    cases (show x = .int _ from h)
    obtain ⟨t1, rfl⟩ := r1
    obtain ⟨_, _, _, rfl, rfl, hl, _⟩ := at_lst I k r2
    exact RcNeAt.int_list _ t1 hl (by omega)
  | .str p, .non => by
    intro A x y u w p1 p2 h k r1 r2 hu
    cases (show x = .str _ from h)
    obtain ⟨t1, rfl⟩ := r1
    cases (show y = .non from k)
    cases r2
    exact RcNeAt.str_none _ t1
  | .str p, .bl q => by
    intro A x y u w p1 p2 h k r1 r2 hu
    cases (show x = .str _ from h)
    obtain ⟨t1, rfl⟩ := r1
    cases (show y = .bl _ from k)
    cases r2
    exact RcNeAt.str_bool _ t1 _
  | .str p, .int q => by
    intro A x y u w p1 p2 h k r1 r2 hu
    cases (show x = .str _ from h)
    obtain ⟨t1, rfl⟩ := r1
    cases (show y = .int _ from k)
    obtain ⟨t2, rfl⟩ := r2
    exact RcNeAt.str_int _ t1 _ t2
  | .str p, .str q => by
    intro A x y u w p1 p2 h k r1 r2 hu
    cases (show x = .str _ from h)
    obtain ⟨t1, rfl⟩ := r1
    cases (show y = .str _ from k)
    obtain ⟨t2, rfl⟩ := r2
    show RcNeAt A s _ _ (!(p == q))
    rw [← mkS_beq]
    exact RcNeAt.str_str _ t1 _ t2
  | .str p, .tup l => by
    intro A x y u w p1 p2 h k r1 r2 hu
    cases (show x = .str _ from h)
    obtain ⟨t1, rfl⟩ := r1
    obtain ⟨_, _, _, rfl, rfl, hl, _⟩ := at_tup I k r2
    exact RcNeAt.str_tuple _ t1 hl (by omega)
  | .str p, .lst l => by
    intro A x y u w p1 p2 h k r1 r2 hu
    cases (show x = .str _ from h)
    obtain ⟨t1, rfl⟩ := r1
    obtain ⟨_, _, _, rfl, rfl, hl, _⟩ := at_lst I k r2
    exact RcNeAt.str_list _ t1 hl (by omega)
  | .tup l, .non => by
    intro A x y u w p1 p2 h k r1 r2 hu
    cases (show y = .non from k)
    cases r2
    obtain ⟨_, _, _, rfl, rfl, hl, _⟩ := at_tup I h r1
    exact RcNeAt.tuple_none hl (by omega)
  | .tup l, .bl q => by
    intro A x y u w p1 p2 h k r1 r2 hu
    cases (show y = .bl _ from k)
    cases r2
    obtain ⟨_, _, _, rfl, rfl, hl, _⟩ := at_tup I h r1
    exact RcNeAt.tuple_bool _ hl (by omega)
  | .tup l, .int q => by
    intro A x y u w p1 p2 h k r1 r2 hu
    cases (show y = .int _ from k)
    obtain ⟨t2, rfl⟩ := r2
    obtain ⟨_, _, _, rfl, rfl, hl, _⟩ := at_tup I h r1
    exact RcNeAt.tuple_int _ t2 hl (by omega)
  | .tup l, .str q => by
    intro A x y u w p1 p2 h k r1 r2 hu
    cases (show y = .str _ from k)
    obtain ⟨t2, rfl⟩ := r2
    obtain ⟨_, _, _, rfl, rfl, hl, _⟩ := at_tup I h r1
    exact RcNeAt.tuple_str _ t2 hl (by omega)
  | .lst l, .non => by
    intro A x y u w p1 p2 h k r1 r2 hu
    cases (show y = .non from k)
    cases r2
    obtain ⟨_, _, _, rfl, rfl, hl, _⟩ := at_lst I h r1
    exact RcNeAt.list_none hl (by omega)
  | .lst l, .bl q => by
    intro A x y u w p1 p2 h k r1 r2 hu
    cases (show y = .bl _ from k)
    cases r2
    obtain ⟨_, _, _, rfl, rfl, hl, _⟩ := at_lst I h r1
    exact RcNeAt.list_bool _ hl (by omega)
  | .lst l, .int q => by
    intro A x y u w p1 p2 h k r1 r2 hu
    cases (show y = .int _ from k)
    obtain ⟨t2, rfl⟩ := r2
    obtain ⟨_, _, _, rfl, rfl, hl, _⟩ := at_lst I h r1
    exact RcNeAt.list_int _ t2 hl (by omega)
  | .lst l, .str q => by
    intro A x y u w p1 p2 h k r1 r2 hu
    cases (show y = .str _ from k)
    obtain ⟨t2, rfl⟩ := r2
    obtain ⟨_, _, _, rfl, rfl, hl, _⟩ := at_lst I h r1
    exact RcNeAt.list_str _ t2 hl (by omega)
  | .tup l, .lst m => by
    intro A x y u w p1 p2 h k r1 r2 hu
    obtain ⟨_, _, _, rfl, rfl, hl, _⟩ := at_tup I h r1
    obtain ⟨_, _, _, rfl, rfl, hm, _⟩ := at_lst I k r2
    exact RcNeAt.tuple_list hl hm (by omega)
  | .lst l, .tup m => by
    intro A x y u w p1 p2 h k r1 r2 hu
    obtain ⟨_, _, _, rfl, rfl, hl, _⟩ := at_lst I h r1
    obtain ⟨_, _, _, rfl, rfl, hm, _⟩ := at_tup I k r2
    exact RcNeAt.list_tuple hl hm (by omega)
  | .tup l, .tup m => by
    intro A x y u w p1 p2 h k r1 r2 hu
    obtain ⟨a, vs, its, ea, eu, hl, v1, q1, n1⟩ := at_tup I h r1
    obtain ⟨b, ws, its2, eb, ew, hm, v2, q2, n2⟩ := at_tup I k r2
    rw [eu, ew]
    show RcNeAt A s _ _ (!(D.eqvs l m))
    rw [← eqvs_eq]
    simp only [D.dep] at hu
    have hA : A.units < cLine := by omega
    have z := RcNeAt.tuples (e := eqAtJ l m) hl hm hA fun j j1 j2 => by
      have := eqAt_ds I l m A.in1 vs ws its its2 p1 p2 q1 q2 v1 v2 (by rw [in1_units]; omega) j (by simpa using j1) (by simpa using j2)
      simpa using this
    rw [List.size_toArray, List.size_toArray, ← n1, ← n2] at z
    exact z
  | .lst l, .lst m => by
    intro A x y u w p1 p2 h k r1 r2 hu
    obtain ⟨a, vs, its, ea, eu, hl, v1, q1, n1⟩ := at_lst I h r1
    obtain ⟨b, ws, its2, eb, ew, hm, v2, q2, n2⟩ := at_lst I k r2
    rw [eu, ew]
    show RcNeAt A s _ _ (!(D.eqvs l m))
    rw [← eqvs_eq]
    simp only [D.dep] at hu
    have hA : A.units < cLine := by omega
    by_cases hn : its.length = its2.length
    · have z := RcNeAt.lists (e := eqAtJ l m) hl hm (by simpa using hn) hA fun j j1 j2 => by
        have := eqAt_ds I l m A.in1 vs ws its its2 p1 p2 q1 q2 v1 v2 (by rw [in1_units]; omega) j (by simpa using j1) (by simpa using j2)
        simpa using this
      rw [List.size_toArray, ← n1] at z
      rw [show l.length = m.length by omega, beq_self_eq_true, Bool.and_true, Nat.min_self, ← show l.length = m.length by omega]
      exact z
    · rw [beq_eq_false_iff_ne.mpr (by omega : l.length ≠ m.length), Bool.and_false]
      exact RcNeAt.lists_lengths hl hm (by simpa using hn) hA
  | .dct _ _, _ => by intro A x y u w p1 p2 h k r1 r2 hu; cases p1
  | .opq _, _ => by intro A x y u w p1 p2 h k r1 r2 hu; cases p1
  | .exc _ _, _ => by intro A x y u w p1 p2 h k r1 r2 hu; cases p1
  | .fd _ _ _, _ => by intro A x y u w p1 p2 h k r1 r2 hu; cases p1
  | _, .dct _ _ => by intro A x y u w p1 p2 h k r1 r2 hu; cases p2
  | _, .opq _ => by intro A x y u w p1 p2 h k r1 r2 hu; cases p2
  | _, .exc _ _ => by intro A x y u w p1 p2 h k r1 r2 hu; cases p2
  | _, .fd _ _ _ => by intro A x y u w p1 p2 h k r1 r2 hu; cases p2
end
def eqD (a b : D) : Option Bool := if a.plain = true ∧ b.plain = true ∧ min a.dep b.dep ≤ 60 then some (D.eqv a b) else none
def neD (a b : D) : Option Bool := (eqD a b).map not
def rEqM : R2 := fun x y H Q => ∃ a b, Rep H a x ∧ Rep H b y ∧ a.plain = true ∧ b.plain = true ∧ min a.dep b.dep ≤ 60 ∧ Q (.bl (D.eqv a b)) H
def rNeM : R2 := fun x y H Q => ∃ a b, Rep H a x ∧ Rep H b y ∧ a.plain = true ∧ b.plain = true ∧ min a.dep b.dep ≤ 60 ∧ Q (.bl (!D.eqv a b)) H
theorem op_eqM {X : Cx} (hu : X.A.units + 64 < cLine) : OpR X (compareOp .Eq) rEqM := by
  intro pins s σ H x y v u Q I rx ry h
  obtain ⟨a, b, ha, hb, p1, p2, dp, q⟩ := h
  exact rcEq_d I a b X.A x y v u p1 p2 ha hb rx ry (by omega) X.prog X.w X.xe _ ⟨.bl _, H, I, rfl, q⟩
theorem op_neM {X : Cx} (hu : X.A.units + 64 < cLine) : OpR X (compareOp .NotEq) rNeM := by
  intro pins s σ H x y v u Q I rx ry h
  obtain ⟨a, b, ha, hb, p1, p2, dp, q⟩ := h
  exact rcNe_d I a b X.A x y v u p1 p2 ha hb rx ry (by omega) X.prog X.w X.xe _ ⟨.bl _, H, I, rfl, q⟩
theorem o_eq : Op2B rEqM eqD := fun H x y a b c Q ra rb e q => by
  unfold eqD at e
  split at e
  · cases e
    rename_i h
    exact ⟨a, b, ra, rb, h.1, h.2.1, h.2.2, q⟩
  · cases e
theorem o_ne : Op2B rNeM neD := fun H x y a b c Q ra rb e q => by
  unfold neD eqD at e
  split at e
  · cases e
    rename_i h
    exact ⟨a, b, ra, rb, h.1, h.2.1, h.2.2, q⟩
  · cases e
end VL

namespace VL
open PySem L2
variable [EC]

theorem mkS_app (a b : List Nat) : mkS a ++ mkS b = mkS (a ++ b) := by
  show PySem.Str.append (mkS a) (mkS b) = _
  simp [mkS, PySem.Str.append]
/-! whole numbers, texts -/
def addD : D → D → Option D
  | .int a, .int b => some (.int (a + b))
  | .str a, .str b => if a.length + b.length ≤ 16777216 then some (.str (a ++ b)) else none
  | _, _ => none
def subD : D → D → Option D | .int a, .int b => some (.int (a - b)) | _, _ => none
def mulD : D → D → Option D
  | .int a, .int b => if (-18446744073709551616 < a ∧ a < 18446744073709551616) ∨ (-18446744073709551616 < b ∧ b < 18446744073709551616) then some (.int (a * b)) else none
  | _, _ => none
def modD : D → D → Option D | .int a, .int b => if 0 < b then some (.int (a % b)) else none | _, _ => none
def fdivD : D → D → Option D | .int a, .int b => if 0 < b ∧ b < 1073741824 then some (.int (a / b)) else none | _, _ => none
def powD : D → D → Option D | .int a, .int b => if 0 ≤ b ∧ b ≤ 1000000 ∧ a.natAbs < 18446744073709551616 then some (.int (a ^ b.toNat)) else none | _, _ => none
def negD : D → Option D | .int a => some (.int (-a)) | _ => none
def rAddA : R2 := fun x y H Q => rI0 (fun i j => .int (i + j)) x y H Q ∨ (∃ i j, x = .str i ∧ y = .str j ∧ i.length + j.length ≤ sizeLine ∧ Q (.str (i ++ j)) H)
theorem op_addA {X : Cx} : OpR X (binaryOp .Add) rAddA := op_add.or op_add_str
theorem o_add : Op2C rAddA addD := fun G H x y a b c Q sm ra rb e q => by
  cases a <;> cases b <;> try (cases e; done)
  · cases e
    exact .inl ⟨_, _, ra, rb, q _ rfl⟩
  · simp only [addD] at e
    split at e
    · cases e
      rename_i i j h
      refine .inr ⟨_, _, ra, rb, by rw [mkS_len, mkS_len, sizeLine_eq]; exact h, ?_⟩
      rw [mkS_app]
      exact q _ rfl
    · cases e
theorem o_sub : Op2C (rI0 fun i j => .int (i - j)) subD := fun G H x y a b c Q sm ra rb e q => by
  cases a <;> cases b <;> try (cases e; done)
  cases e
  exact ⟨_, _, ra, rb, q _ rfl⟩
theorem o_mul : Op2C (rI CMul fun i j => .int (i * j)) mulD := fun G H x y a b c Q sm ra rb e q => by
  cases a <;> cases b <;> try (cases e; done)
  simp only [mulD] at e
  split at e
  · cases e
    rename_i i j h
    exact ⟨_, _, ra, rb, h, q _ rfl⟩
  · cases e
theorem o_mod : Op2C (rI (fun _ j => 0 < j) fun i j => .int (i % j)) modD := fun G H x y a b c Q sm ra rb e q => by
  cases a <;> cases b <;> try (cases e; done)
  simp only [modD] at e
  split at e
  · cases e
    rename_i i j h
    exact ⟨_, _, ra, rb, h, q _ rfl⟩
  · cases e
theorem o_fdiv : Op2C (rI CDiv fun i j => .int (i / j)) fdivD := fun G H x y a b c Q sm ra rb e q => by
  cases a <;> cases b <;> try (cases e; done)
  simp only [fdivD] at e
  split at e
  · cases e
    rename_i i j h
    exact ⟨_, _, ra, rb, h, q _ rfl⟩
  · cases e
theorem o_pow : Op2C (rI CPow fun i j => .int (i ^ j.toNat)) powD := fun G H x y a b c Q sm ra rb e q => by
  cases a <;> cases b <;> try (cases e; done)
  simp only [powD] at e
  split at e
  · cases e
    rename_i i j h
    exact ⟨_, _, ra, rb, h, q _ rfl⟩
  · cases e
theorem o_neg : Op1C (rU fun i => .int (-i)) negD := fun G H x a c Q sm ra e q => by
  cases a <;> try (cases e; done)
  cases e
  exact ⟨_, ra, q _ rfl⟩
/-! comparisons -/
def ltD : D → D → Option Bool | .int a, .int b => some (decide (a < b)) | .str a, .str b => some (decide (a < b)) | _, _ => none
def leD : D → D → Option Bool | .int a, .int b => some (decide (a ≤ b)) | _, _ => none
def gtD : D → D → Option Bool | .int a, .int b => some (decide (b < a)) | _, _ => none
def geD : D → D → Option Bool | .int a, .int b => some (decide (b ≤ a)) | _, _ => none
def rLtA : R2 := fun x y H Q => rI0 (fun i j => .bl (decide (i < j))) x y H Q ∨ (∃ i j, x = .str i ∧ y = .str j ∧ Q (.bl (decide (i.cps.toList < j.cps.toList))) H)
theorem op_ltA {X : Cx} : OpR X (compareOp .Lt) rLtA := op_lt.or op_lt_str
theorem o_lt : Op2B rLtA ltD := fun H x y a b c Q ra rb e q => by
  cases a <;> cases b <;> try (cases e; done)
  · cases e; exact .inl ⟨_, _, ra, rb, q⟩
  · cases e
    refine .inr ⟨_, _, ra, rb, ?_⟩
    rw [mkS_cps, mkS_cps]
    exact q
theorem o_le : Op2B (rI0 fun i j => .bl (decide (i ≤ j))) leD := fun H x y a b c Q ra rb e q => by
  cases a <;> cases b <;> try (cases e; done)
  cases e; exact ⟨_, _, ra, rb, q⟩
theorem o_gt : Op2B (rI0 fun i j => .bl (decide (j < i))) gtD := fun H x y a b c Q ra rb e q => by
  cases a <;> cases b <;> try (cases e; done)
  cases e; exact ⟨_, _, ra, rb, q⟩
theorem o_ge : Op2B (rI0 fun i j => .bl (decide (j ≤ i))) geD := fun H x y a b c Q ra rb e q => by
  cases a <;> cases b <;> try (cases e; done)
  cases e; exact ⟨_, _, ra, rb, q⟩
def isNoneD : D → Option Bool | .non => some true | .opq _ => none | _ => some false
theorem isNone_ok {H : Hp} {a : D} {x : V} {c : Bool} (ra : Rep H a x) (e : isNoneD a = some c) : decide (x = .non) = c := by
  cases a with
  | non => cases e; rw [show x = .non from ra]; rfl
  | bl _ => cases e; rw [show x = .bl _ from ra]; rfl
  | int _ => cases e; rw [show x = .int _ from ra]; rfl
  | str _ => cases e; rw [show x = .str _ from ra]; rfl
  | tup _ => cases e; obtain ⟨_, _, e, _⟩ := ra; rw [e]; rfl
  | lst _ => cases e; obtain ⟨_, _, e, _⟩ := ra; rw [e]; rfl
  | dct k _ => cases e; cases k <;> (obtain ⟨_, _, e, _⟩ := ra; rw [e]; rfl)
  | opq _ => cases e
  | exc _ _ => cases e; obtain ⟨_, _, _, e, _⟩ := ra; rw [e]; rfl
  | fd _ _ _ => cases e; obtain ⟨_, e, _⟩ := ra; rw [e]; rfl
theorem o_isN : Op2B (fun x y H Q => y = .non ∧ Q (.bl (decide (x = .non))) H) (fun a b => match b with | .non => isNoneD a | _ => none) := fun H x y a b c Q ra rb e q => by
  cases b <;> try (cases e; done)
  exact ⟨rb, by rw [isNone_ok ra e]; exact q⟩
theorem o_notN : Op2B (fun x y H Q => y = .non ∧ Q (.bl (!decide (x = .non))) H) (fun a b => match b with | .non => (isNoneD a).map not | _ => none) := fun H x y a b c Q ra rb e q => by
  cases b <;> try (cases e; done)
  refine ⟨rb, ?_⟩
  cases e2 : isNoneD a with
  | none => simp [e2] at e
  | some k =>
    simp [e2] at e
    rw [isNone_ok ra e2, e, Bool.not_not]; exact q
/-! in -/
def D.flat : D → Bool
  | .non => true | .bl _ => true | .int _ => true | .str _ => true | _ => false
theorem flat_ok {H : Hp} : ∀ {a : D} {x : V}, a.flat = true → Rep H a x → flatV x = true
  | .non, x, _, r => by rw [show x = .non from r]; rfl
  | .bl b, x, _, r => by rw [show x = .bl b from r]; rfl
  | .int b, x, _, r => by rw [show x = .int b from r]; rfl
  | .str b, x, _, r => by rw [show x = .str (mkS b) from r]; rfl
  | .tup _, x, f, _ => by cases f
  | .lst _, x, f, _ => by cases f
  | .dct _ _, x, f, _ => by cases f
  | .opq _, x, f, _ => by cases f
  | .exc _ _, x, f, _ => by cases f
  | .fd _ _ _, x, f, _ => by cases f
theorem eqV_ok' {H : Hp} : ∀ (a b : D), ∀ (x y : V), a.flat = true → b.flat = true → Rep H a x → Rep H b y → eqV x y = D.eqv a b
  | .non, .non => by intro x y _ _ r q; rw [show x = .non from r, show y = .non from q]; rfl
  | .non, .bl b => by intro x y _ _ r q; rw [show x = .non from r, show y = .bl b from q]; rfl
  | .non, .int b => by intro x y _ _ r q; rw [show x = .non from r, show y = .int b from q]; rfl
  | .non, .str b => by intro x y _ _ r q; rw [show x = .non from r, show y = .str (mkS b) from q]; rfl
  | .bl a, .non => by intro x y _ _ r q; rw [show x = .bl a from r, show y = .non from q]; rfl
  | .bl a, .bl b => by intro x y _ _ r q; rw [show x = .bl a from r, show y = .bl b from q]; rfl
  | .bl a, .int b => by intro x y _ _ r q; rw [show x = .bl a from r, show y = .int b from q]; rfl
  | .bl a, .str b => by intro x y _ _ r q; rw [show x = .bl a from r, show y = .str (mkS b) from q]; rfl
  | .int a, .non => by intro x y _ _ r q; rw [show x = .int a from r, show y = .non from q]; rfl
  | .int a, .bl b => by intro x y _ _ r q; rw [show x = .int a from r, show y = .bl b from q]; rfl
  | .int a, .int b => by intro x y _ _ r q; rw [show x = .int a from r, show y = .int b from q]; rfl
  | .int a, .str b => by intro x y _ _ r q; rw [show x = .int a from r, show y = .str (mkS b) from q]; rfl
  | .str a, .non => by intro x y _ _ r q; rw [show x = .str (mkS a) from r, show y = .non from q]; rfl
  | .str a, .bl b => by intro x y _ _ r q; rw [show x = .str (mkS a) from r, show y = .bl b from q]; rfl
  | .str a, .int b => by intro x y _ _ r q; rw [show x = .str (mkS a) from r, show y = .int b from q]; rfl
  | .str a, .str b => by intro x y _ _ r q; rw [show x = .str (mkS a) from r, show y = .str (mkS b) from q]; exact mkS_beq a b
  | .tup _, _ => by intro x y f g; cases f
  | .lst _, _ => by intro x y f g; cases f
  | .dct _ _, _ => by intro x y f g; cases f
  | .opq _, _ => by intro x y f g; cases f
  | .exc _ _, _ => by intro x y f g; cases f
  | .fd _ _ _, _ => by intro x y f g; cases f
  | _, .tup _ => by intro x y f g; cases g
  | _, .lst _ => by intro x y f g; cases g
  | _, .dct _ _ => by intro x y f g; cases g
  | _, .opq _ => by intro x y f g; cases g
  | _, .exc _ _ => by intro x y f g; cases g
  | _, .fd _ _ _ => by intro x y f g; cases g
theorem eqV_ok {H : Hp} {a b : D} {x y : V} (f : a.flat = true) (g : b.flat = true) (r : Rep H a x) (q : Rep H b y) : eqV x y = D.eqv a b := eqV_ok' a b x y f g r q
theorem flats_ok {H : Hp} : ∀ {l : List D} {vs : List V}, l.all D.flat = true → Reps H l vs → vs.all flatV = true
  | [], _, _, h => by rw [show _ = [] from h]; rfl
  | d :: l, _, f, ⟨v, r, e, h, q⟩ => by
    subst e
    simp only [List.all_cons, Bool.and_eq_true] at f ⊢
    exact ⟨flat_ok f.1 h, flats_ok f.2 q⟩
theorem inV_ok {H : Hp} {a : D} {x : V} (f : a.flat = true) (r : Rep H a x) : ∀ {l : List D} {vs : List V}, l.all D.flat = true → Reps H l vs → inV x vs = l.any (fun d => D.eqv d a)
  | [], _, _, h => by rw [show _ = [] from h]; rfl
  | d :: l, _, g, ⟨v, q, e, h, k⟩ => by
    subst e
    simp only [List.all_cons, Bool.and_eq_true] at g
    have ih := inV_ok f r g.2 k
    unfold inV at ih ⊢
    rw [List.any_cons, List.any_cons, eqV_ok g.1 f h r, ih]
def inD (a : D) : D → Option Bool
  | .lst l => if a.flat = true ∧ l.all D.flat = true then some (l.any fun d => D.eqv d a) else none
  | .tup l => if a.flat = true ∧ l.all D.flat = true then some (l.any fun d => D.eqv d a) else none
  | .str z => match a with | .str [c] => some (decide (c ∈ z)) | _ => none
  | _ => none
def notInD (a b : D) : Option Bool := (inD a b).map not
def rInA (K : PySem.W.Frag) : R2 := fun x y H Q => rIn K false x y H Q ∨ (∃ (c : Nat) (z : Str), x = .str ⟨#[c]⟩ ∧ y = .str z ∧ Q (.bl (decide (c ∈ z.cps.toList))) H)
def rNotInA (K : PySem.W.Frag) : R2 := fun x y H Q => rIn K true x y H Q ∨ (∃ (c : Nat) (z : Str), x = .str ⟨#[c]⟩ ∧ y = .str z ∧ Q (.bl (!decide (c ∈ z.cps.toList))) H)
theorem op_inA {X : Cx} : OpR X (compareOp .In) (rInA X.K) := op_in_seq.or op_in_sign
theorem op_notInA {X : Cx} : OpR X (compareOp .NotIn) (rNotInA X.K) := op_notIn_seq.or op_notIn_sign
theorem in_cases {K : PySem.W.Frag} {H : Hp} {x y : V} {a b : D} {c : Bool} (ra : Rep H a x) (rb : Rep H b y) (e : inD a b = some c) :
    (∃ p xs, y = .ref p ∧ (SqL K H p xs ∨ SqT K H p xs) ∧ flatV x = true ∧ xs.all flatV = true ∧ inV x xs = c) ∨ ∃ (k : Nat) (z : Str), x = .str ⟨#[k]⟩ ∧ y = .str z ∧ decide (k ∈ z.cps.toList) = c := by
  cases b <;> try (cases e; done)
  · rename_i z
    cases a <;> try (cases e; done)
    rename_i w
    match w, e with
    | [k], e =>
      cases e
      exact .inr ⟨k, mkS z, ra, rb, by rw [mkS_cps]⟩
    | [], e => cases e
    | _ :: _ :: _, e => cases e
  · rename_i l
    simp only [inD] at e
    split at e
    · cases e
      rename_i h
      obtain ⟨p, xs, e, g, z, r⟩ := rb
      exact .inl ⟨p, xs, e, .inr (.inl (.inl g)), flat_ok h.1 ra, flats_ok h.2 r, inV_ok h.1 ra h.2 r⟩
    · cases e
  · rename_i l
    simp only [inD] at e
    split at e
    · cases e
      rename_i h
      obtain ⟨p, xs, e, g, z, r⟩ := rb
      exact .inl ⟨p, xs, e, .inl (.inl g), flat_ok h.1 ra, flats_ok h.2 r, inV_ok h.1 ra h.2 r⟩
    · cases e
theorem o_in {K : PySem.W.Frag} : Op2B (rInA K) inD := fun H x y a b c Q ra rb e q => by
  rcases in_cases (K := K) ra rb e with ⟨p, xs, e1, e2, e3, e4, e5⟩ | ⟨k, z, e1, e2, e3⟩
  · exact .inl ⟨p, xs, e1, e2, e3, e4, by simp only [Bool.false_eq_true, if_false]; rw [e5]; exact q⟩
  · exact .inr ⟨k, z, e1, e2, by rw [e3]; exact q⟩
theorem o_notIn {K : PySem.W.Frag} : Op2B (rNotInA K) notInD := fun H x y a b c Q ra rb e q => by
  unfold notInD at e
  cases e2 : inD a b with
  | none => rw [e2] at e; cases e
  | some c' =>
    rw [e2] at e
    cases e
    rcases in_cases (K := K) ra rb e2 with ⟨p, xs, e1, e2, e3, e4, e5⟩ | ⟨k, z, e1, e2, e3⟩
    · exact .inl ⟨p, xs, e1, e2, e3, e4, by simp only [if_true]; rw [e5]; exact q⟩
    · exact .inr ⟨k, z, e1, e2, by rw [e3]; exact q⟩
end VL

namespace VL
open PySem L2
variable [EC]

/-! lengths, items, slices -/
def lenD : D → Option D
  | .str x => if x.length ≤ 16777216 then some (.int x.length) else none
  | .lst l => some (.int l.length)
  | .tup l => some (.int l.length)
  | _ => none
def rLen (K : PySem.W.Frag) : List V → Hp → VK → Prop := fun xs H Q => ∃ x n, xs = [x] ∧ LenV K x H n ∧ Q (.int n) H
theorem o_len {K : PySem.W.Frag} : Op1C (fun x H Q => rLen K [x] H Q) lenD := fun G H x a c Q sm ra e q => by
  cases a <;> try (cases e; done)
  · simp only [lenD] at e
    split at e
    · cases e
      rename_i l h
      refine ⟨x, l.length, rfl, ?_, q _ rfl⟩
      rw [show x = .str (mkS l) from ra]
      exact ⟨by rw [mkS_len, sizeLine_eq]; exact h, (mkS_len l).symm⟩
    · cases e
  · cases e
    obtain ⟨p, vs, e, g, z, r⟩ := ra
    subst e
    exact ⟨_, _, rfl, .inr ⟨vs, .inl (.inl g), r.length⟩, q _ rfl⟩
  · cases e
    obtain ⟨p, vs, e, g, z, r⟩ := ra
    subst e
    exact ⟨_, _, rfl, .inl ⟨vs, .inl g, r.length⟩, q _ rfl⟩
theorem lenD_flat (a c : D) (e : lenD a = some c) (G H : Hp) (v : V) (h : Rep H c v) : Rep G c v := by
  cases a <;> try (cases e; done)
  · simp only [lenD] at e
    split at e <;> cases e
    exact h
  · cases e; exact h
  · cases e; exact h
theorem atI_reps {G : Hp} {l : List D} {vs : List V} {i : Int} {d : D} (r : Reps G l vs) (e : atI l i = some d) : ∃ v, atI vs i = some v ∧ Rep G d v := by
  unfold atI at e ⊢
  rw [← r.length]
  cases h : ixN l.length i with
  | none => rw [h] at e; cases e
  | some j =>
    rw [h] at e
    obtain ⟨v, a, b⟩ := r.get e
    exact ⟨v, a, b⟩
def ixD : D → D → Option D
  | .lst l, .int i => atI l i
  | .tup l, .int i => atI l i
  | .str x, .int i => if x.length ≤ 16777216 then (atI x i).map fun c => .str [c] else none
  | _, _ => none
def rIxA (K : PySem.W.Frag) : R2 := fun x y H Q => rIxL K x y H Q ∨ rIxT K x y H Q ∨ rIxS x y H Q
theorem ix_any {X : Cx} : IxR X (rIxA X.K) := fun value slice pins s σ H x y v u Q I rx ry h hs => by
  rcases h with h | h | h
  · exact ix_list value slice pins s σ H x y v u Q I rx ry h hs
  · exact ix_tup value slice pins s σ H x y v u Q I rx ry h hs
  · exact ix_str value slice pins s σ H x y v u Q I rx ry h hs
theorem o_ix {K : PySem.W.Frag} : Op2C (rIxA K) ixD := fun G H x y a b c Q sm ra rb e q => by
  cases a <;> cases b <;> try (cases e; done)
  · rename_i l i
    simp only [ixD] at e
    split at e
    · rename_i h
      cases e2 : atI l i with
      | none => rw [e2] at e; cases e
      | some k =>
        rw [e2] at e; cases e
        refine .inr (.inr ⟨mkS l, i, k, ra, rb, by rw [mkS_len, sizeLine_eq]; exact h, by rw [mkS_cps]; exact e2, q _ rfl⟩)
    · cases e
  · obtain ⟨p, vs, e1, g, z, r⟩ := ra
    obtain ⟨v, a1, a2⟩ := atI_reps r e
    exact .inr (.inl ⟨p, vs, _, v, e1, rb, .inl (.inl g), a1, q _ a2⟩)
  · obtain ⟨p, vs, e1, g, z, r⟩ := ra
    obtain ⟨v, a1, a2⟩ := atI_reps r e
    exact .inl ⟨p, vs, _, v, e1, rb, .inl g, a1, q _ a2⟩
/-- a slice's part -/
def cut {α : Type} (l : List α) (lo hi : Option Int) : List α := (l.drop (HT.sIx l.length 0 lo)).take (HT.sIx l.length l.length hi - HT.sIx l.length 0 lo)
theorem cut_len {α : Type} (l : List α) (lo hi : Option Int) : (cut l lo hi).length ≤ l.length := by
  unfold cut
  rw [List.length_take, List.length_drop]
  omega
def slL (lo hi : Option Int) : D → Option (List D)
  | .lst l => some (cut l lo hi)
  | _ => none
def slS (lo hi : Option Int) : D → Option D
  | .str x => if x.length ≤ 16777216 then some (.str (cut x lo hi)) else none
  | _ => none
section
variable {R : Type} {F : Fc} {tmp : Tmp} {s : State} {m : Res R} {K : Rs R} {N : Rn R} {Rt : Rr R} {ta tb : TE}
def RO (F : Fc) (tmp : Tmp) (s : State) (m : Res R) (t : TO) (K : Option Int → State → Res R → Prop) : Prop :=
  ∀ σ H Q, Holds F tmp s σ H → m ≠ .fail → EOk F m → (∀ o s' H', K o s' m → Holds F tmp s' σ H' → Q o H') → t σ H Q
theorem ro_none {K : Option Int → State → Res R → Prop} (k : K none s m) : RO F tmp s m tNoPart K := fun σ H Q hh _ _ q => q none s H k hh
theorem ro_some {K : Option Int → State → Res R → Prop} (h : RD F tmp s ta m (fun tm s1 m1 => ∃ d k, valS s1 tm = some d ∧ m1 = ob (asI d) k ∧ ∀ i, K (some i) s1 (k i))) : RO F tmp s m (tPart ta) K := fun σ H Q hh nf eo q =>
  h σ H _ hh nf eo fun tm s1 x H1 ⟨d, k, ea, em, hk⟩ h1 => by
    obtain ⟨c, ec, em'⟩ := ob_cases (by rw [← em]; exact nf)
    have h2 := h1
    obtain ⟨G, ω, h1⟩ := h1
    have r := h1.repC h1.tm.1 ea
    cases d <;> first | cases ec | skip
    exact ⟨_, r, q _ s1 H1 (by rw [em, em']; exact hk _) h2.pop⟩
theorem rd_slL {Kf : PySem.W.Frag} {tl th : TO} (h : RD F tmp s ta m (fun tm s1 m1 => ∀ x, RO F ((x, tm) :: tmp) s1 m1 tl (fun lo s2 m2 => RO F ((x, tm) :: tmp) s2 m2 th (fun hi s3 m3 => ∃ d k, valS s3 tm = some d ∧ m3 = ob (slL lo hi d) k ∧ ∀ c, K (.own (.l c)) s3 (k c))))) :
    RD F tmp s (tSl (rSlL Kf) ta tl th) m K := fun σ H Q hh nf eo q =>
  h σ H _ hh nf eo fun tm s1 x H1 h2 h1 => h2 x σ H1 _ h1 nf eo fun lo s2 H2 h3 hh2 => h3 σ H2 _ hh2 nf eo fun hi s3 H3 ⟨d, k, ea, em, hk⟩ hh3 => by
    obtain ⟨c, ec, em'⟩ := ob_cases (by rw [← em]; exact nf)
    obtain ⟨G, ω, h4⟩ := hh3
    have r := h4.repC h4.tm.1 ea
    cases d <;> first | cases ec | skip
    obtain ⟨p, vs, e1, g, z, r⟩ := r
    refine ⟨p, vs, e1, .inl g, fun p2 np => q _ s3 _ _ (by rw [em, em']; exact hk _) (h4.pop.newL np ?_ ?_)⟩
    · exact Nat.le_trans (cut_len _ lo hi) z
    · unfold cut cutV
      rw [← r.length]
      exact (r.drop _).take _
theorem rd_slS {tl th : TO} (h : RD F tmp s ta m (fun tm s1 m1 => ∀ x, RO F ((x, tm) :: tmp) s1 m1 tl (fun lo s2 m2 => RO F ((x, tm) :: tmp) s2 m2 th (fun hi s3 m3 => ∃ d k, valS s3 tm = some d ∧ m3 = ob (slS lo hi d) k ∧ ∀ c, K (.own (.f c)) s3 (k c))))) :
    RD F tmp s (tSl rSlS ta tl th) m K := fun σ H Q hh nf eo q =>
  h σ H _ hh nf eo fun tm s1 x H1 h2 h1 => h2 x σ H1 _ h1 nf eo fun lo s2 H2 h3 hh2 => h3 σ H2 _ hh2 nf eo fun hi s3 H3 ⟨d, k, ea, em, hk⟩ hh3 => by
    obtain ⟨c, ec, em'⟩ := ob_cases (by rw [← em]; exact nf)
    obtain ⟨G, ω, h4⟩ := hh3
    have r := h4.repC h4.tm.1 ea
    cases d <;> try (cases ec; done)
    rename_i l
    simp only [slS] at ec
    split at ec
    · cases ec
      rename_i hz
      refine ⟨mkS l, r, by rw [mkS_len, sizeLine_eq]; exact hz, q _ s3 _ _ (by rw [em, em']; exact hk _) ⟨G, ω, h4.pop.pushF ?_⟩⟩
      show V.str (cutS (mkS l) lo hi) = .str (mkS (cut l lo hi))
      unfold cutS cut
      rw [mkS_len, mkS_cps]; rfl
    · cases ec
end
/-! built-ins -/
def intD : D → Option D
  | .int i => some (.int i)
  | .bl b => some (.int (if b then 1 else 0))
  | .str x => if x.length ≤ 640 then (PySem.intText? (mkS x)).map .int else none
  | _ => none
def rInt : List V → Hp → VK → Prop := fun xs H Q => ((∃ i, xs = [.int i] ∧ Q (.int i) H) ∨ ∃ k, xs = [.bl k] ∧ Q (.int (if k then 1 else 0)) H) ∨ (∃ a n, xs = [.str a] ∧ PySem.intText? a = some n ∧ a.length ≤ 640 ∧ Q (.int n) H)
theorem CallR.or {X : Cx} {f : Value} {r r' : List V → Hp → VK → Prop} (h : CallR X f r) (h' : CallR X f r') : CallR X f (fun xs H Q => r xs H Q ∨ r' xs H Q) := by
  intro pins s σ H xs us Q I rv q
  rcases q with q | q
  · exact h pins s σ H xs us Q I rv q
  · exact h' pins s σ H xs us Q I rv q
theorem call_intA {X : Cx} : CallR X (.type "int") rInt := CallR.or call_int1 call_int_str
theorem o_int : Op1C (fun x H Q => rInt [x] H Q) intD := fun G H x a c Q sm ra e q => by
  cases a <;> try (cases e; done)
  · cases e
    exact .inl (.inr ⟨_, by rw [show x = _ from ra], q _ rfl⟩)
  · cases e
    exact .inl (.inl ⟨_, by rw [show x = _ from ra], q _ rfl⟩)
  · simp only [intD] at e
    split at e
    · rename_i l h
      cases e2 : PySem.intText? (mkS l) with
      | none => rw [e2] at e; cases e
      | some n =>
        rw [e2] at e; cases e
        exact .inr ⟨mkS l, n, by rw [show x = _ from ra], e2, by rw [mkS_len]; exact h, q _ rfl⟩
    · cases e
def listD : D → Option (List D) | .lst l => some l | .tup l => some l | _ => none
def rList (K : PySem.W.Frag) : List V → Hp → VK → Prop := fun xs H Q => ∃ p ys, xs = [V.ref p] ∧ (SqL K H p ys ∨ SqT K H p ys) ∧ ∀ (l : Addr), H l = none → Q (V.ref l) (upd H l (HO.lst ys))
theorem o_list {K : PySem.W.Frag} : Op1L (fun x H Q => rList K [x] H Q) listD := fun G H x a c Q sm ra e => by
  cases a <;> try (cases e; done)
  · cases e
    obtain ⟨p, vs, e, g, z, r⟩ := ra
    subst e
    exact ⟨z, fun q => ⟨p, vs, rfl, .inr (.inl (.inl g)), fun l nl => q l vs nl r⟩⟩
  · cases e
    obtain ⟨p, vs, e, g, z, r⟩ := ra
    subst e
    exact ⟨z, fun q => ⟨p, vs, rfl, .inl (.inl g), fun l nl => q l vs nl r⟩⟩
def minD : D → D → Option D | .int a, .int b => some (.int (if b < a then b else a)) | _, _ => none
def maxD : D → D → Option D | .int a, .int b => some (.int (if b > a then b else a)) | _, _ => none
theorem o_min : Op2C (fun x y H Q => (fun xs H Q => ∃ i j, xs = [V.int i, V.int j] ∧ Q (.int (if j < i then j else i)) H : List V → Hp → VK → Prop) [x, y] H Q) minD := fun G H x y a b c Q sm ra rb e q => by
  cases a <;> cases b <;> try (cases e; done)
  cases e
  exact ⟨_, _, by rw [show x = _ from ra, show y = _ from rb], q _ rfl⟩
theorem o_max : Op2C (fun x y H Q => (fun xs H Q => ∃ i j, xs = [V.int i, V.int j] ∧ Q (.int (if j > i then j else i)) H : List V → Hp → VK → Prop) [x, y] H Q) maxD := fun G H x y a b c Q sm ra rb e q => by
  cases a <;> cases b <;> try (cases e; done)
  cases e
  exact ⟨_, _, by rw [show x = _ from ra, show y = _ from rb], q _ rfl⟩
end VL

namespace VL
open PySem L2
variable [EC]

/-! temporaries in between -/
section
variable {F : Fc} {G H H' : Hp} {ω : Addr → Option Lab} {tmp : Tmp} {s : State} {σ : St} {v : V} {t : T} {d : D}
def phiMid (n e : Nat) : Lab → Option Lab
  | 1 :: j :: x => if j < n then some (1 :: j :: x) else if j < n + e then none else some (1 :: (j - e) :: x)
  | l => some l
theorem Tms.rlMid {φ : Lab → Option Lab} {tmp tmp' : Tmp} (h0 : Tms G H (VL.rl ω φ) σ tmp') (hlen : tmp'.length ≤ tmp.length) : ∀ (pre : Tmp), (∀ k x, k < pre.length → φ ([1, tmp.length + k] ++ x) = some ([1, tmp'.length + k] ++ x)) → Tms G H ω σ (pre ++ tmp) → Tms G H (VL.rl ω φ) σ (pre ++ tmp')
  | [], _, _ => h0
  | (v, tm) :: r, e, ⟨a, b⟩ => by
    refine ⟨?_, Tms.rlMid h0 hlen r (fun k x hk => e k x (Nat.lt_succ_of_lt hk)) b⟩
    cases tm with
    | own t =>
      have := e r.length
      refine Own.rl a fun x => ?_
      have q := e r.length x (Nat.lt_succ_self _)
      have l1 : (r.append tmp).length = tmp.length + r.length := by show (r ++ tmp).length = _; rw [List.length_append]; omega
      have l2 : (r.append tmp').length = tmp'.length + r.length := by show (r ++ tmp').length = _; rw [List.length_append]; omega
      rw [l1, l2]
      exact q
    | ali i => exact a
theorem Holds.dropMid {ex : Tmp} (pre : Tmp) (h : Holds F (pre ++ (ex ++ tmp)) s σ H) : Holds F (pre ++ tmp) s σ H := by
  obtain ⟨G, ω, h⟩ := h
  have ht : Tms G H ω σ tmp := Tms.tail ex (Tms.tail pre h.tm)
  refine ⟨G, rl ω (phiMid tmp.length ex.length), h.rl _ s σ _ h.len (fun j u e => ?_) ?_ h.pn⟩
  · obtain ⟨v', e1, e2⟩ := h.sl j u e
    exact ⟨v', e1, Own.rl e2 fun x => by simp [phiMid]⟩
  · refine Tms.rlMid (tmp := ex ++ tmp) (tmp' := tmp) (Tms.rl tmp (fun j x hj => ?_) ht) (by rw [List.length_append]; omega) pre (fun k x hk => ?_) h.tm
    · simp [phiMid, hj]
    · have h1 : ¬ (ex ++ tmp).length + k < tmp.length := by simp; omega
      have h2 : ¬ (ex ++ tmp).length + k < tmp.length + ex.length := by simp; omega
      have h3 : (ex ++ tmp).length + k - ex.length = tmp.length + k := by simp; omega
      simp only [phiMid, List.cons_append, List.nil_append]
      rw [if_neg h1, if_neg h2, h3]
theorem Tms.at {G H : Hp} {ω : Addr → Option Lab} {σ : St} {v : V} {tm : TM} {tmp : Tmp} : ∀ (pre : Tmp), Tms G H ω σ (pre ++ ((v, tm) :: tmp)) → TmOk G H ω σ [1, tmp.length] tm v
  | [], h => h.1
  | _ :: r, h => Tms.at r h.2
theorem Hd.pushNewT (h : Hd F G ω tmp s σ H) {p : Addr} {a b : D} {x y : V} (n : H p = none) (ra : Rep G a x) (rb : Rep G b y) : Holds F ((.ref p, .own (.f (.tup [a, b]))) :: tmp) s σ (upd H p (.tup [x, y])) :=
  h.newT n (by rw [sizeLine_eq]; show 2 ≤ 16777216; omega) ⟨x, [y], rfl, ra, y, [], rfl, rb, rfl⟩
end
section
variable {R : Type} {F : Fc} {tmp : Tmp} {s : State} {m : Res R} {K : Rs R} {N : Rn R} {Rt : Rr R} {ta tb te to : TE}
abbrev Ki (R : Type) := Tmp → (State → Prop) → (State → State) → List D → State → Res R → Prop
/-! what a for walks -/
theorem ri_list {Kf : PySem.W.Frag} {K : Ki R} (h : RD F tmp s ta m (fun tm s1 m1 => ∃ ds, valS s1 tm = some (.lst ds) ∧ ∀ v, K [(v, tm)] (fun s => valS s tm = valS s1 tm) id ds s1 m1)) : RI F tmp s m (iList Kf ta) K := fun σ H Q hh nf eo q =>
  h σ H _ hh nf eo fun tm s1 x H1 ⟨ds, ea, hk⟩ h1 => by
    have at_ : ∀ (pre : Tmp) s σ H, valS s tm = some (.lst ds) → Holds F (pre ++ ([(x, tm)] ++ tmp)) s σ H → ∃ a vs G ω, x = .ref a ∧ Rd H a (.lst vs) ∧ Hd F G ω (pre ++ ([(x, tm)] ++ tmp)) s σ H ∧ Reps G ds vs ∧ ds.length ≤ sizeLine := fun pre s σ H e ⟨G, ω, h⟩ => by
      obtain ⟨a, vs, e1, g, z, r⟩ := h.repC (Tms.at (tm := tm) (tmp := tmp) pre h.tm) e
      exact ⟨a, vs, G, ω, e1, g, h, r, z⟩
    have hp' : ∀ {s : State}, valS s tm = valS s1 tm → valS s tm = some (.lst ds) := fun h => h.trans ea
    obtain ⟨a, vs, G, ω, e1, g, h2, r, z⟩ := at_ [] s1 σ H1 ea h1
    refine ⟨a, e1, ⟨vs, .inl g⟩, q [(x, tm)] _ id ds s1 (Itl Kf a) H1 (hk x) ⟨fun pre s σ H _ h => h.dropMid pre, z, fun s σ H i hp hh hi => ?_, fun s σ H hp hh => ?_, fun pre s σ H i d y H' hp hh hd hy => ?_⟩ h1⟩
    · obtain ⟨a', vs', G', ω', e2, g2, _, r2, _⟩ := at_ [] s σ H (hp' hp) hh
      rw [e1] at e2; cases e2
      have hl : i < vs'.length := by rw [← r2.length]; exact hi
      exact ⟨vs', vs'[i], .inl g2, by simp [hl]⟩
    · obtain ⟨a', vs', G', ω', e2, g2, _, r2, _⟩ := at_ [] s σ H (hp' hp) hh
      rw [e1] at e2; cases e2
      exact ⟨vs', .inl g2, by rw [r2.length]; exact Nat.le_refl _⟩
    · obtain ⟨a', vs', G', ω', e2, g2, h3, r2, _⟩ := at_ pre s σ H (hp' hp) hh
      rw [e1] at e2; cases e2
      obtain ⟨rfl, hy⟩ := hy
      have hy := hy vs' (.inl g2)
      obtain ⟨w, w1, w2⟩ := r2.get hd
      rw [hy] at w1; cases w1
      exact ⟨G', ω', h3.pushF w2⟩
def rngD (a b : D) : Option (List D) := match a, b with
  | .int i, .int j => if -1000000000 ≤ i ∧ i ≤ 1000000000 ∧ -1000000000 ≤ j ∧ j ≤ 1000000000 ∧ j - i ≤ 16777216 then some ((List.range (j - i).toNat).map fun k => .int (i + (k : Nat))) else none
  | _, _ => none
theorem it_range {lo : Int} {n : Nat} (hn : n ≤ 16777216) : ItOk F tmp ([] ++ tmp) (fun _ => True) id (Itr lo n) ((List.range n).map fun k => .int (lo + (k : Nat))) := by
  refine ⟨fun pre s σ H _ h => h.dropMid (ex := []) pre, by rw [sizeLine_eq]; simpa using hn, fun s σ H i _ _ hi => by show i < n; simpa using hi, fun s σ H _ _ => by show n ≤ _; simp, fun pre s σ H i d x H' _ hh hd hy => ?_⟩
  obtain ⟨rfl, rfl⟩ := hy
  rw [List.getElem?_map] at hd
  cases e : (List.range n)[i]? with
  | none => rw [e] at hd; cases hd
  | some k =>
    rw [e] at hd
    cases hd
    have : i = k := by
      rw [List.getElem?_range (by have := (List.getElem?_eq_some_iff.mp e).1; simpa using this)] at e
      exact Option.some.inj e
    subst this
    exact holds_push (d := .int _) hh fun _ => rfl
theorem ri_range1 {K : Ki R} (h : RD F tmp s ta m (fun tm s1 m1 => ∃ d k, valS s1 tm = some d ∧ m1 = ob (rngD (.int 0) d) k ∧ ∀ ds, K [] (fun _ => True) id ds s1 (k ds))) : RI F tmp s m (iRng1 (tCons ta tNil)) K := fun σ H Q hh nf eo q =>
  h σ H _ hh nf eo fun tm s1 x H1 ⟨d, k, ea, em, hk⟩ h1 => by
    obtain ⟨c, ec, em'⟩ := ob_cases (by rw [← em]; exact nf)
    have h2 := h1
    obtain ⟨G, ω, h1⟩ := h1
    have r := h1.repC h1.tm.1 ea
    cases d <;> try (cases ec; done)
    rename_i j
    simp only [rngD] at ec
    split at ec
    · cases ec
      rename_i hb
      have r' : x = .int j := r
      subst r'
      refine ⟨j, rfl, by omega, by omega, q [] _ id _ s1 _ H1 (by rw [em, em']; exact hk _) ?_ h2.pop⟩
      have := it_range (F := F) (tmp := tmp) (lo := 0) (n := j.toNat) (by omega)
      simpa using this
    · cases ec
theorem ri_range2 {K : Ki R} (h : RD F tmp s ta m (fun tm1 s1 m1 => ∀ x, RD F ((x, tm1) :: tmp) s1 tb m1 (fun tm2 s2 m2 => ∃ a b k, valS s2 tm1 = some a ∧ valS s2 tm2 = some b ∧ m2 = ob (rngD a b) k ∧ ∀ ds, K [] (fun _ => True) id ds s2 (k ds)))) : RI F tmp s m (iRng2 (tCons ta (tCons tb tNil))) K := fun σ H Q hh nf eo q =>
  h σ H _ hh nf eo fun tm1 s1 x H1 h2 h1 => h2 x σ H1 _ h1 nf eo fun tm2 s2 y H2 ⟨a, b, k, ea, eb, em, hk⟩ h3 => by
    obtain ⟨c, ec, em'⟩ := ob_cases (by rw [← em]; exact nf)
    have h4 := h3
    obtain ⟨G, ω, h3⟩ := h3
    have r1 := h3.repC h3.tm.2.1 ea
    have r2 := h3.repC h3.tm.1 eb
    cases a <;> cases b <;> try (cases ec; done)
    rename_i i j
    simp only [rngD] at ec
    split at ec
    · cases ec
      rename_i hb
      have r1' : x = .int i := r1
      have r2' : y = .int j := r2
      subst r1'; subst r2'
      refine ⟨i, j, rfl, ⟨by omega, by omega, by omega, by omega⟩, q [] _ id _ s2 _ H2 (by rw [em, em']; exact hk _) (it_range (by omega)) h4.pop.pop⟩
    · cases ec
def enumD : Nat → List D → List D
  | _, [] => []
  | i, d :: r => .tup [.int (i : Nat), d] :: enumD (i + 1) r
omit [EC] in
theorem enumD_len : ∀ (l : List D) (i : Nat), (enumD i l).length = l.length
  | [], _ => rfl
  | _ :: r, i => by simp [enumD, enumD_len r]
omit [EC] in
theorem enumD_get : ∀ (l : List D) (i k : Nat) (d : D), (enumD i l)[k]? = some d → ∃ e, l[k]? = some e ∧ d = .tup [.int ((i + k : Nat)), e]
  | [], _, _, _, h => by simp [enumD] at h
  | x :: r, i, 0, d, h => by simp [enumD] at h; exact ⟨x, rfl, by rw [← h]; rfl⟩
  | x :: r, i, k + 1, d, h => by
    obtain ⟨e, a, b⟩ := enumD_get r (i + 1) k d (by simpa [enumD] using h)
    exact ⟨e, by simpa using a, by rw [b, show i + 1 + k = i + (k + 1) by omega]⟩
theorem ri_enum {Kf : PySem.W.Frag} {K : Ki R} (h : RD F tmp s ta m (fun tm s1 m1 => ∃ ds, valS s1 tm = some (.lst ds) ∧ ∀ v, K [(v, tm)] (fun s => valS s tm = valS s1 tm) id (enumD 0 ds) s1 m1)) : RI F tmp s m (iEnum Kf (tCons ta tNil)) K := fun σ H Q hh nf eo q =>
  h σ H _ hh nf eo fun tm s1 x H1 ⟨ds, ea, hk⟩ h1 => by
    have at_ : ∀ (pre : Tmp) s σ H, valS s tm = some (.lst ds) → Holds F (pre ++ ([(x, tm)] ++ tmp)) s σ H → ∃ a vs G ω, x = .ref a ∧ Rd H a (.lst vs) ∧ Hd F G ω (pre ++ ([(x, tm)] ++ tmp)) s σ H ∧ Reps G ds vs ∧ ds.length ≤ sizeLine := fun pre s σ H e ⟨G, ω, h⟩ => by
      obtain ⟨a, vs, e1, g, z, r⟩ := h.repC (Tms.at (tm := tm) (tmp := tmp) pre h.tm) e
      exact ⟨a, vs, G, ω, e1, g, h, r, z⟩
    have hp' : ∀ {s : State}, valS s tm = valS s1 tm → valS s tm = some (.lst ds) := fun h => h.trans ea
    obtain ⟨a, vs, G, ω, e1, g, h2, r, z⟩ := at_ [] s1 σ H1 ea h1
    refine ⟨a, vs, by rw [e1], .inl g, q [(x, tm)] _ id _ s1 (Ite Kf a) H1 (hk x) ⟨fun pre s σ H _ h => h.dropMid pre, by rw [enumD_len]; exact z, fun s σ H i hp hh hi => ?_, fun s σ H hp hh => ?_, fun pre s σ H i d y H' hp hh hd hy => ?_⟩ h1⟩
    · obtain ⟨a', vs', G', ω', e2, g2, _, r2, _⟩ := at_ [] s σ H (hp' hp) hh
      rw [e1] at e2; cases e2
      rw [enumD_len] at hi
      exact (walk_enum (K := Kf) (a := a) (xs := vs')).goes i H (by rw [← r2.length]; exact hi) (.inl g2)
    · obtain ⟨a', vs', G', ω', e2, g2, _, r2, _⟩ := at_ [] s σ H (hp' hp) hh
      rw [e1] at e2; cases e2
      rw [enumD_len, r2.length]
      exact (walk_enum (K := Kf) (a := a) (xs := vs')).stops H (.inl g2)
    · obtain ⟨a', vs', G', ω', e2, g2, h3, r2, _⟩ := at_ pre s σ H (hp' hp) hh
      rw [e1] at e2; cases e2
      obtain ⟨e, e3, e4⟩ := enumD_get ds 0 i d hd
      obtain ⟨w, w1, w2⟩ := r2.get e3
      obtain ⟨p, x1, x2, rfl, np, rfl, y1, y2⟩ := (walk_enum (K := Kf) (a := a) (xs := vs')).yields i H y H' ((List.getElem?_eq_some_iff.mp w1).1) (.inl g2) hy
      have y1' : x1 = .int (i : Nat) := (Option.some.inj y1).symm
      have y2' : vs'[i]? = some x2 := y2
      rw [w1] at y2'; cases y2'
      subst y1'
      rw [e4, Nat.zero_add]
      exact h3.pushNewT np rfl w2
def zipD : List D → List D → List D
  | a :: r, b :: q => .tup [a, b] :: zipD r q
  | _, _ => []
theorem zipD_len : ∀ (l m : List D), (zipD l m).length = min l.length m.length
  | [], _ => by simp [zipD]
  | _ :: _, [] => by simp [zipD]
  | _ :: r, _ :: q => by simp only [zipD, List.length_cons, zipD_len r q]; omega
theorem zipD_get : ∀ (l m : List D) (k : Nat) (d : D), (zipD l m)[k]? = some d → ∃ a b, l[k]? = some a ∧ m[k]? = some b ∧ d = .tup [a, b]
  | [], _, _, _, h => by simp [zipD] at h
  | _ :: _, [], _, _, h => by simp [zipD] at h
  | x :: r, y :: q, 0, d, h => by simp [zipD] at h; exact ⟨x, y, rfl, rfl, h.symm⟩
  | x :: r, y :: q, k + 1, d, h => by
    obtain ⟨a, b, h1, h2, h3⟩ := zipD_get r q k d (by simpa [zipD] using h)
    exact ⟨a, b, by simpa using h1, by simpa using h2, h3⟩
theorem ri_zip {Kf : PySem.W.Frag} {K : Ki R} (h : RD F tmp s ta m (fun tm1 s1 m1 => ∀ x, RD F ((x, tm1) :: tmp) s1 tb m1 (fun tm2 s2 m2 => ∃ da db, valS s2 tm1 = some (.lst da) ∧ valS s2 tm2 = some (.lst db) ∧ ∀ y, K [(y, tm2), (x, tm1)] (fun s => valS s tm1 = valS s2 tm1 ∧ valS s tm2 = valS s2 tm2) id (zipD da db) s2 m2))) : RI F tmp s m (iZip Kf (tCons ta (tCons tb tNil))) K := fun σ H Q hh nf eo q =>
  h σ H _ hh nf eo fun tm1 s1 x H1 hx h1 => hx x σ H1 _ h1 nf eo fun tm2 s2 y H2 ⟨da, db, ea, eb, hk⟩ h2 => by
    have at_ : ∀ (pre : Tmp) s σ H, (valS s tm1 = some (.lst da) ∧ valS s tm2 = some (.lst db)) → Holds F (pre ++ ([(y, tm2), (x, tm1)] ++ tmp)) s σ H → ∃ a b vs ws G ω, x = .ref a ∧ y = .ref b ∧ Rd H a (.lst vs) ∧ Rd H b (.lst ws) ∧ Hd F G ω (pre ++ ([(y, tm2), (x, tm1)] ++ tmp)) s σ H ∧ Reps G da vs ∧ Reps G db ws ∧ da.length ≤ sizeLine := fun pre s σ H e ⟨G, ω, h⟩ => by
      have q1 := Tms.at (tm := tm2) (tmp := (x, tm1) :: tmp) pre h.tm
      have q2 := Tms.at (tm := tm1) (tmp := tmp) (pre ++ [(y, tm2)]) (by rw [List.append_assoc]; exact h.tm)
      obtain ⟨b, ws, e2, g2, z2, r2⟩ := h.repC q1 e.2
      obtain ⟨a, vs, e1, g1, z1, r1⟩ := h.repC q2 e.1
      exact ⟨a, b, vs, ws, G, ω, e1, e2, g1, g2, h, r1, r2, z1⟩
    have hp' : ∀ {s : State}, (valS s tm1 = valS s2 tm1 ∧ valS s tm2 = valS s2 tm2) → (valS s tm1 = some (.lst da) ∧ valS s tm2 = some (.lst db)) := fun h => ⟨h.1.trans ea, h.2.trans eb⟩
    obtain ⟨a, b, vs, ws, G, ω, e1, e2, g1, g2, h3, r1, r2, z⟩ := at_ [] s2 σ H2 ⟨ea, eb⟩ h2
    refine ⟨a, b, vs, ws, by rw [e1, e2], .inl g1, .inl g2, q [(y, tm2), (x, tm1)] _ id _ s2 (Itz Kf a b) H2 (hk y) ⟨fun pre s σ H _ h => h.dropMid pre, by rw [zipD_len]; omega, fun s σ H i hp hh hi => ?_, fun s σ H hp hh => ?_, fun pre s σ H i d v H' hp hh hd hy => ?_⟩ h2⟩
    · obtain ⟨a', b', vs', ws', G', ω', e3, e4, g3, g4, _, r3, r4, _⟩ := at_ [] s σ H (hp' hp) hh
      rw [e1] at e3; cases e3; rw [e2] at e4; cases e4
      rw [zipD_len] at hi
      exact (walk_zip (K := Kf) (a := a) (b := b) (xs := vs') (ys := ws') rfl).goes i H (by rw [← r3.length, ← r4.length]; exact hi) ⟨.inl g3, .inl g4⟩
    · obtain ⟨a', b', vs', ws', G', ω', e3, e4, g3, g4, _, r3, r4, _⟩ := at_ [] s σ H (hp' hp) hh
      rw [e1] at e3; cases e3; rw [e2] at e4; cases e4
      rw [zipD_len, r3.length, r4.length]
      exact (walk_zip (K := Kf) (a := a) (b := b) (xs := vs') (ys := ws') rfl).stops H ⟨.inl g3, .inl g4⟩
    · obtain ⟨a', b', vs', ws', G', ω', e3, e4, g3, g4, h5, r3, r4, _⟩ := at_ pre s σ H (hp' hp) hh
      rw [e1] at e3; cases e3; rw [e2] at e4; cases e4
      obtain ⟨da', db', d1, d2, d3⟩ := zipD_get da db i d hd
      obtain ⟨w, w1, w2⟩ := r3.get d1
      obtain ⟨w', w1', w2'⟩ := r4.get d2
      have l1 := (List.getElem?_eq_some_iff.mp w1).1
      have l2 := (List.getElem?_eq_some_iff.mp w1').1
      obtain ⟨p, x1, x2, rfl, np, rfl, y1, y2⟩ := (walk_zip (K := Kf) (a := a) (b := b) (xs := vs') (ys := ws') rfl).yields i H v H' (by omega) ⟨.inl g3, .inl g4⟩ hy
      have y1' : vs'[i]? = some x1 := y1
      have y2' : ws'[i]? = some x2 := y2
      rw [w1] at y1'; cases y1'
      rw [w1'] at y2'; cases y2'
      rw [d3]
      exact h5.pushNewT np w2 w2'
def strL (x : List Nat) : List D := x.map fun c => .str [c]
def strLD : D → Option (List D) | .str x => if x.length ≤ 16777216 then some (strL x) else none | _ => none
theorem ri_str {K : Ki R} (h : RD F tmp s ta m (fun tm s1 m1 => ∃ d k, valS s1 tm = some d ∧ m1 = ob (strLD d) k ∧ ∀ ds, K [] (fun _ => True) id ds s1 (k ds))) : RI F tmp s m (iStr ta) K := fun σ H Q hh nf eo q =>
  h σ H _ hh nf eo fun tm s1 x H1 ⟨d, k, ea, em, hk⟩ h1 => by
    obtain ⟨c, ec, em'⟩ := ob_cases (by rw [← em]; exact nf)
    have h2 := h1
    obtain ⟨G, ω, h1⟩ := h1
    have r := h1.repC h1.tm.1 ea
    cases d <;> try (cases ec; done)
    rename_i z
    simp only [strLD] at ec
    split at ec
    · rename_i hz
      cases ec
      have r' : x = .str (mkS z) := r
      refine ⟨mkS z, r', q [] _ id _ s1 _ H1 (by rw [em, em']; exact hk _) ⟨fun pre s σ H _ h => h.dropMid (ex := []) pre, by rw [sizeLine_eq]; simpa [strL] using hz, fun s σ H i _ _ hi => ?_, fun s σ H _ _ => ?_, fun pre s σ H i d x H' _ hh hd hy => ?_⟩ h2.pop⟩
      · exact (walk_str (z := mkS z)).goes i H (by simpa [strL, mkS] using hi) trivial
      · have := (walk_str (z := mkS z)).stops H trivial
        simpa [strL, mkS] using this
      · obtain ⟨rfl, c, c1, rfl⟩ := hy
        unfold strL at hd
        rw [List.getElem?_map] at hd
        have : z[i]? = some c := by
          have h5 : (mkS z).cps[i]? = some c := c1
          simpa [mkS] using h5
        rw [this] at hd
        cases hd
        exact holds_push (d := .str [c]) hh fun _ => rfl
    · cases ec
/-! targets of two names -/
def gTupS : List D → Option D := fun _ => none
theorem rg_tup2 {Kf : PySem.W.Frag} {g1 g2 : TG} {is1 is2 : List Nat} {d : D} {K : State → Res R → Prop} (h : ∃ a b, d = .tup [a, b] ∧ ∀ y, RG F ((y, .own (.f b)) :: tmp) s m is1 g1 a (fun s1 m1 => RG F tmp s1 m1 is2 g2 b K)) : RG F tmp s m (is1 ++ is2) (gTup Kf 2 (gCons g1 (gCons g2 gNil))) d K := fun σ H v Q hh nf eo q => by
  obtain ⟨a, b, e, h⟩ := h
  subst e
  obtain ⟨G, ω, h0⟩ := hh
  obtain ⟨p, vs, e1, g, z, r⟩ := h0.tm.1
  obtain ⟨x, r1, e2, rx, y, r2, e3, ry, e4⟩ := r
  subst e2; subst e3
  cases (show r2 = [] from e4)
  refine ⟨p, [x, y], e1, .inl (.inl (h0.gH _ _ g)), rfl, x, [y], rfl, ?_⟩
  refine h y σ H x _ ⟨G, ω, (h0.pop.pushF ry).pushF rx⟩ nf eo fun s1 σ1 H1 hk h1 hj1 hl1 => ?_
  refine ⟨y, [], rfl, ?_⟩
  refine hk σ1 H1 y _ h1 nf eo fun s2 σ2 H2 hk2 h2 hj2 hl2 => ⟨rfl, q s2 σ2 H2 hk2 h2 (fun j hj => ?_) (hl2.trans hl1)⟩
  rw [List.mem_append] at hj
  rw [hj2 j fun z => hj (.inr z), hj1 j fun z => hj (.inl z)]
end
end VL

namespace VL
open PySem L2
variable [EC]

/-! methods of lists in slots -/
def apL (ds : List D) (d : D) : Option (List D) := if ds.length < 16777216 then some (ds ++ [d]) else none
def popL (ds : List D) : Option (D × List D) := match ds[ds.length - 1]? with | some d => some (d, ds.dropLast) | none => none
def popAtL (ds : List D) : D → Option (D × List D)
  | .int i => match ixN ds.length i with
    | some k => match ds[k]? with | some d => some (d, ds.eraseIdx k) | none => none
    | none => none
  | _ => none
def setL (ds : List D) (k : D) (d : D) : Option (List D) := match k with
  | .int i => (ixN ds.length i).map fun j => ds.set j d
  | _ => none
section
variable {R : Type} {F : Fc} {tmp : Tmp} {s : State} {m : Res R} {K : Rs R} {N : Rn R} {Rt : Rr R} {ta tb te to : TE} {Kf : PySem.W.Frag}
theorem Holds.tyL {i : Nat} {ds : List D} {x : V} {σ : St} {H : Hp} (h : Holds F ((x, .ali i) :: tmp) s σ H) (hi : s[i]? = some (some (.l ds))) : tyV Kf "list" x H ∧ σ[i]? = some (some x) := by
  obtain ⟨G, ω, h⟩ := h
  obtain ⟨v, e1, a, vs, e2, ha, hw, z, r⟩ := h.sl i _ hi
  have ok : σ[i]? = some (some x) := h.tm.1
  rw [ok] at e1
  cases e1
  subst e2
  exact ⟨.inl ⟨rfl, vs, .inl (.inl ha)⟩, ok⟩
theorem rd_append (h : RD F tmp s to m (fun tm1 s1 m1 => ∃ i ds0, tm1 = .ali i ∧ s1[i]? = some (some (.l ds0)) ∧ ∀ x, RD F ((x, .ali i) :: tmp) s1 te m1 (fun tm2 s2 m2 => ∃ d ds k, tm2 = .own (.f d) ∧ s2[i]? = some (some (.l ds)) ∧ m2 = ob (apL ds d) k ∧ ∀ ds', K (.own (.f .non)) (s2.set i (some (.l ds'))) (k ds')))) :
    RD F tmp s (tBM Kf "list" rAppend to (tCons te tNil)) m K := fun σ H Q hh nf eo q =>
  h σ H _ hh nf eo fun tm1 s1 x H1 ⟨i, ds0, e1, hi0, h2⟩ h1 => by
    subst e1
    refine ⟨(h1.tyL hi0).1, h2 x σ H1 _ h1 nf eo fun tm2 s2 y H2 ⟨d, ds, k, e2, hi, em, hk⟩ h3 => ?_⟩
    subst e2
    obtain ⟨c, ec, em'⟩ := ob_cases (by rw [← em]; exact nf)
    obtain ⟨a, vs, sa, ha, hl, hz, _, up⟩ := h3.wrSlot hi
    have ex := (h3.pop.tyL (Kf := Kf) hi).2
    rw [sa] at ex; cases ex
    unfold apL at ec
    split at ec
    · cases ec
      rename_i hlt
      refine ⟨a, vs, y, rfl, rfl, ha, by rw [hl, sizeLine_eq]; exact hlt, ?_⟩
      have h4 := up (ds ++ [d]) (vs ++ [y]) (by rw [sizeLine_eq]; simp; omega) fun G _ _ r ht => r.append ⟨y, [], rfl, ht _ _ rfl d rfl, rfl⟩
      exact q _ _ .non _ (by rw [em, em']; exact hk _) (holds_push (d := .non) h4.pop.pop fun _ => rfl)
    · cases ec
theorem rd_pop (h : RD F tmp s to m (fun tm1 s1 m1 => ∃ i ds k, tm1 = .ali i ∧ s1[i]? = some (some (.l ds)) ∧ m1 = ob (popL ds) k ∧ ∀ p : D × List D, K (.own (.f p.1)) (s1.set i (some (.l p.2))) (k p))) :
    RD F tmp s (tBM0 Kf "list" rPop to) m K := fun σ H Q hh nf eo q =>
  h σ H _ hh nf eo fun tm1 s1 x H1 ⟨i, ds, k, e1, hi, em, hk⟩ h1 => by
    subst e1
    refine ⟨(h1.tyL hi).1, ?_⟩
    obtain ⟨c, ec, em'⟩ := ob_cases (by rw [← em]; exact nf)
    obtain ⟨a, vs, sa, ha, hl, hz, get, _⟩ := h1.wrSlot hi
    have ex := (h1.tyL (Kf := Kf) hi).2
    rw [sa] at ex; cases ex
    unfold popL at ec
    split at ec
    · rename_i d hd
      cases ec
      obtain ⟨v, e2, hp⟩ := get _ _ hd
      have h2 := hp (x := v) rfl
      obtain ⟨a', vs', sa', ha', hl', hz', _, up⟩ := h2.wrSlot hi
      rw [sa] at sa'; cases sa'
      rw [ha] at ha'; cases ha'
      refine ⟨a, vs, v, rfl, rfl, ha, by rw [hl]; exact e2, ?_⟩
      have h4 := up ds.dropLast vs.dropLast (by rw [List.length_dropLast]; omega) fun G _ _ r ht => r.dropLast
      obtain ⟨G, ω, h4⟩ := h4
      exact q _ _ v _ (by rw [em, em']; exact hk (_, _)) ⟨G, ω, h4.pop.pop.pushF h4.topF⟩
    · cases ec
theorem rd_popAt (h : RD F tmp s to m (fun tm1 s1 m1 => ∃ i ds0, tm1 = .ali i ∧ s1[i]? = some (some (.l ds0)) ∧ ∀ x, RD F ((x, .ali i) :: tmp) s1 te m1 (fun tm2 s2 m2 => ∃ di ds k, valS s2 tm2 = some di ∧ s2[i]? = some (some (.l ds)) ∧ m2 = ob (popAtL ds di) k ∧ ∀ p : D × List D, K (.own (.f p.1)) (s2.set i (some (.l p.2))) (k p)))) :
    RD F tmp s (tBM Kf "list" rPopAt to (tCons te tNil)) m K := fun σ H Q hh nf eo q =>
  h σ H _ hh nf eo fun tm1 s1 x H1 ⟨i, ds0, e1, hi0, h2⟩ h1 => by
    subst e1
    refine ⟨(h1.tyL hi0).1, h2 x σ H1 _ h1 nf eo fun tm2 s2 y H2 ⟨di, ds, k, e2, hi, em, hk⟩ h3 => ?_⟩
    obtain ⟨c, ec, em'⟩ := ob_cases (by rw [← em]; exact nf)
    have ey : ∃ j, di = .int j ∧ y = .int j := by
      obtain ⟨G, ω, h4⟩ := h3
      have r := h4.repC h4.tm.1 e2
      cases di <;> try (cases ec; done)
      exact ⟨_, rfl, r⟩
    obtain ⟨j, rfl, rfl⟩ := ey
    have h3 := h3.pop
    obtain ⟨a, vs, sa, ha, hl, hz, get, _⟩ := h3.wrSlot hi
    have ex := (h3.tyL (Kf := Kf) hi).2
    rw [sa] at ex; cases ex
    simp only [popAtL] at ec
    split at ec
    · rename_i k0 hk0
      split at ec
      · rename_i d hd
        cases ec
        obtain ⟨v, e2, hp⟩ := get _ _ hd
        have h2 := hp (x := v) rfl
        obtain ⟨a', vs', sa', ha', hl', hz', _, up⟩ := h2.wrSlot hi
        rw [sa] at sa'; cases sa'
        rw [ha] at ha'; cases ha'
        obtain ⟨i1, i2, i3, i4⟩ := ixN_seq hk0
        have hb : (ds.length : Int) ≤ 16777216 := by rw [sizeLine_eq] at hz; omega
        refine ⟨a, vs, j, k0, v, rfl, rfl, ha, by omega, by omega, by rw [hl]; exact i1, e2, ?_⟩
        have h4 := up (ds.eraseIdx k0) (vs.eraseIdx k0) (by rw [List.length_eraseIdx]; split <;> omega) fun G _ _ r ht => r.eraseIdx k0
        obtain ⟨G, ω, h4⟩ := h4
        exact q _ _ v _ (by rw [em, em']; exact hk (_, _)) ⟨G, ω, h4.pop.pop.pushF h4.topF⟩
      · cases ec
    · cases ec
theorem rd_reverse (h : RD F tmp s to m (fun tm1 s1 m1 => ∃ i ds, tm1 = .ali i ∧ s1[i]? = some (some (.l ds)) ∧ K (.own (.f .non)) (s1.set i (some (.l ds.reverse))) m1)) :
    RD F tmp s (tBM0 Kf "list" rReverse to) m K := fun σ H Q hh nf eo q =>
  h σ H _ hh nf eo fun tm1 s1 x H1 ⟨i, ds, e1, hi, hk⟩ h1 => by
    subst e1
    refine ⟨(h1.tyL hi).1, ?_⟩
    obtain ⟨a, vs, sa, ha, hl, hz, _, up⟩ := h1.wrSlot hi
    have ex := (h1.tyL (Kf := Kf) hi).2
    rw [sa] at ex; cases ex
    refine ⟨a, vs, rfl, rfl, ha, ?_⟩
    have h4 := up ds.reverse vs.reverse (by simpa using hz) fun G _ _ r ht => r.reverse
    exact q _ _ .non _ hk (holds_push (d := .non) h4.pop fun _ => rfl)
/-- x[i] = v -/
theorem rs_setL (h : RD F tmp s te m (fun tm1 s1 m1 => ∃ d, tm1 = .own (.f d) ∧ ∀ v, RD F ((v, .own (.f d)) :: tmp) s1 to m1 (fun tm2 s2 m2 => ∃ i, tm2 = .ali i ∧ ∀ x, RD F ((x, .ali i) :: (v, .own (.f d)) :: tmp) s2 ta m2 (fun tm3 s3 m3 => ∃ dk ds k, valS s3 tm3 = some dk ∧ s3[i]? = some (some (.l ds)) ∧ m3 = ob (setL ds dk d) k ∧ ∀ ds', N (s3.set i (some (.l ds'))) (k ds'))))) :
    RS F tmp s m (tAsg te (gSub to ta rSetL)) N Rt := fun σ H De hh nf eo nx rt =>
  h σ H _ hh nf eo fun tm1 s1 v H1 ⟨d, e1, h2⟩ h1 => by
    subst e1
    refine h2 v σ H1 _ h1 nf eo fun tm2 s2 x H2 ⟨i, e2, h4⟩ h3 => ?_
    subst e2
    refine h4 x σ H2 _ h3 nf eo fun tm3 s3 y H3 ⟨dk, ds, k, ea, hi, em, hk⟩ h5 => ?_
    obtain ⟨c, ec, em'⟩ := ob_cases (by rw [← em]; exact nf)
    have ey : ∃ j, dk = .int j ∧ y = .int j := by
      obtain ⟨G, ω, h6⟩ := h5
      have r := h6.repC h6.tm.1 ea
      cases dk <;> try (cases ec; done)
      exact ⟨_, rfl, r⟩
    obtain ⟨j, rfl, rfl⟩ := ey
    have h6 := h5.pop
    have ex := (h6.tyL (Kf := F.K) hi).2
    have h7 := h6.pop
    obtain ⟨a, vs, sa, ha, hl, hz, _, up⟩ := h7.wrSlot hi
    rw [sa] at ex; cases ex
    simp only [setL] at ec
    cases e3 : ixN ds.length j with
    | none => rw [e3] at ec; cases ec
    | some n =>
      rw [e3] at ec
      cases ec
      refine ⟨a, vs, j, n, rfl, rfl, ha, by rw [hl]; exact e3, ?_⟩
      have h8 := up (ds.set n d) (vs.set n v) (by simpa using hz) fun G _ _ r ht => r.set n (ht _ _ rfl d rfl)
      exact nx _ σ _ (by rw [em, em']; exact hk _) h8.pop
/-! lists by values -/
theorem reps_eqV {H : Hp} {a : D} {x : V} (f : a.flat = true) (r : Rep H a x) {l : List D} {vs : List V} (g : l.all D.flat = true) (q : Reps H l vs) {j : Nat} {v : V} (e : vs[j]? = some v) : ∃ d, l[j]? = some d ∧ eqV v x = D.eqv d a := by
  have hl : j < l.length := by rw [q.length]; exact (List.getElem?_eq_some_iff.mp e).1
  have hd : l[j]? = some l[j] := List.getElem?_eq_getElem hl
  obtain ⟨w, w1, w2⟩ := q.get hd
  rw [e] at w1; cases w1
  exact ⟨l[j], hd, eqV_ok (List.all_eq_true.mp g _ (List.getElem_mem hl)) f w2 r⟩
def indexD : D → D → Option D
  | .lst l, a => if a.flat = true ∧ l.all D.flat = true then (l.findIdx? fun d => D.eqv d a).map fun j => .int (j : Nat) else none
  | _, _ => none
theorem rd_index (h : RD F tmp s to m (fun tm1 s1 m1 => ∃ l0, valS s1 tm1 = some (.lst l0) ∧ ∀ x, RD F ((x, tm1) :: tmp) s1 te m1 (fun tm2 s2 m2 => ∃ a b k, valS s2 tm1 = some a ∧ valS s2 tm2 = some b ∧ m2 = ob (indexD a b) k ∧ ∀ c, K (.own (.f c)) s2 (k c)))) :
    RD F tmp s (tBM Kf "list" (rIndex Kf) to (tCons te tNil)) m K := fun σ H Q hh nf eo q =>
  h σ H _ hh nf eo fun tm1 s1 x H1 ⟨l0, e0, h2⟩ h1 => by
    have ht : tyV Kf "list" x H1 := by
      obtain ⟨G, ω, h3⟩ := h1
      obtain ⟨a, vs, e, g, z, r⟩ := h3.repC h3.tm.1 e0
      subst e
      exact .inl ⟨rfl, vs, .inl g⟩
    refine ⟨ht, h2 x σ H1 _ h1 nf eo fun tm2 s2 y H2 ⟨a, b, k, ea, eb, em, hk⟩ h3 => ?_⟩
    obtain ⟨c, ec, em'⟩ := ob_cases (by rw [← em]; exact nf)
    have h5 := h3
    obtain ⟨G, ω, h4⟩ := h3
    have ra := h4.repC h4.tm.2.1 ea
    have rb := (h4.repC h4.tm.1 eb).toR h4.gH
    cases a <;> try (cases ec; done)
    rename_i l
    obtain ⟨p, vs, e, g, z, r⟩ := ra
    simp only [indexD] at ec
    split at ec
    · rename_i hf
      cases e2 : l.findIdx? (fun d => D.eqv d b) with
      | none => rw [e2] at ec; cases ec
      | some j =>
        rw [e2] at ec
        cases ec
        obtain ⟨j1, j2, j3⟩ := List.findIdx?_eq_some_iff_getElem.mp e2
        have r2 := Reps.mono h4.gH _ _ r
        have hv : j < vs.length := by rw [← r.length]; exact j1
        have hvj : vs[j]? = some vs[j] := List.getElem?_eq_getElem hv
        obtain ⟨d, d1, d2⟩ := reps_eqV hf.1 rb hf.2 r2 hvj
        rw [List.getElem?_eq_getElem j1] at d1
        cases d1
        refine ⟨p, vs, y, j, vs[j], e, rfl, .inl g, flat_ok hf.1 rb, flats_ok hf.2 r2, hvj, d2.trans j2, fun m z' hm ez => ?_, ?_⟩
        · obtain ⟨d', d3, d4⟩ := reps_eqV hf.1 rb hf.2 r2 ez
          have hml : m < l.length := by omega
          rw [List.getElem?_eq_getElem hml] at d3
          cases d3
          rw [d4]
          have := j3 m hm
          simpa using this
        · exact q _ s2 _ H2 (by rw [em, em']; exact hk _) (holds_push (d := .int _) h5.pop.pop fun _ => rfl)
    · cases ec
def strsD : List D → Option (List (List Nat))
  | [] => some []
  | .str x :: r => (strsD r).map (x :: ·)
  | _ :: _ => none
theorem strs_ok {G : Hp} : ∀ {l : List D} {ys : List (List Nat)} {vs : List V}, strsD l = some ys → Reps G l vs → vs = (ys.map mkS).map V.str
  | [], ys, vs, e, h => by cases e; exact h
  | .str x :: r, ys, vs, e, ⟨v, q, e1, h, k⟩ => by
    cases e2 : strsD r with
    | none => simp [strsD, e2] at e
    | some ys' =>
      simp [strsD, e2] at e
      subst e
      rw [e1, show v = .str (mkS x) from h, strs_ok e2 k]
      rfl
  | .non :: _, _, _, e, _ => by cases e
  | .bl _ :: _, _, _, e, _ => by cases e
  | .int _ :: _, _, _, e, _ => by cases e
  | .tup _ :: _, _, _, e, _ => by cases e
  | .lst _ :: _, _, _, e, _ => by cases e
  | .dct _ _ :: _, _, _, e, _ => by cases e
  | .opq _ :: _, _, _, e, _ => by cases e
  | .exc _ _ :: _, _, _, e, _ => by cases e
  | .fd _ _ _ :: _, _, _, e, _ => by cases e
def joinS (a : List Nat) : List (List Nat) → List Nat
  | [] => []
  | [x] => x
  | x :: r => x ++ a ++ joinS a r
def joinD : D → D → Option D
  | .str a, .lst l => match strsD l with
    | some ys => if (ys.map List.length).sum + ys.length * a.length ≤ 16777216 then some (.str (joinS a ys)) else none
    | none => none
  | _, _ => none
end
/-! isinstance -/
inductive Kn where | int | str | bool | list | tuple | dict
def Kn.nm : Kn → String | .int => "int" | .str => "str" | .bool => "bool" | .list => "list" | .tuple => "tuple" | .dict => "dict"
def isK : D → Kn → Option Bool
  | .non, _ => some false
  | .bl _, .bool => some true
  | .bl _, .int => some true
  | .bl _, _ => some false
  | .int _, .int => some true
  | .int _, _ => some false
  | .str _, .str => some true
  | .str _, _ => some false
  | .tup _, .tuple => some true
  | .tup _, _ => some false
  | .lst _, .list => some true
  | .lst _, _ => some false
  | .dct _ _, .dict => some true
  | .dct _ _, _ => some false
  | .opq _, _ => none
  | .exc _ _, _ => none
  | .fd _ _ _, _ => none
def isO : D → Bool | .opq _ => true | .exc _ _ => true | .fd _ _ _ => true | _ => false
def tyN : D → String | .non => "NoneType" | .bl _ => "bool" | .int _ => "int" | .str _ => "str" | .tup _ => "tuple" | .lst _ => "list" | .dct _ _ => "dict" | .opq _ => "" | .exc _ _ => "" | .fd _ _ _ => ""
theorem ty_ok {K : PySem.W.Frag} {H : Hp} : ∀ (d : D) (x : V), isO d = false → Rep H d x → TyX K H x (.type (tyN d))
  | .non, x, _, h => by rw [show x = .non from h]; exact .base .non
  | .bl b, x, _, h => by rw [show x = .bl b from h]; exact .base (.bl b)
  | .int b, x, _, h => by rw [show x = .int b from h]; exact .base (.int b)
  | .str b, x, _, h => by rw [show x = .str (mkS b) from h]; exact .base (.str _)
  | .tup l, x, _, ⟨a, vs, e, g, _, _⟩ => by rw [e]; exact .base (.tup g)
  | .lst l, x, _, ⟨a, vs, e, .inl g, _, _⟩ => by rw [e]; exact .base (.lst g)
  | .lst l, x, _, ⟨a, vs, e, .inr ⟨o, g⟩, _, _⟩ => by rw [e]; exact .base (.frz g)
  | .dct false l, x, _, ⟨a, kvs, e, .inl g, _⟩ => by rw [e]; exact .base (.dK g)
  | .dct false l, x, _, ⟨a, kvs, e, .inr ⟨o, g⟩, _⟩ => by rw [e]; exact .fDict g
  | .dct true l, x, _, ⟨a, kvs, e, g, _⟩ => by rw [e]; exact .base (.dT g)
  | .opq w, x, n, _ => by cases n
  | .exc _ _, x, n, _ => by cases n
  | .fd _ _ _, x, n, _ => by cases n
theorem kitB_ok : ∀ (d : D) (k : Kn) (c : Bool), isK d k = some c → kitB (tyN d) k.nm = some c := by
  intro d k c e
  cases d <;> cases k <;> first | cases e | skip
  all_goals (simp only [tyN, Kn.nm]; decide +kernel)
section
variable {R : Type} {F : Fc} {tmp : Tmp} {s : State} {m : Res R} {K : Rs R} {ta tb te to : TE} {Kf : PySem.W.Frag}
theorem rd_isi (kn : Kn) (h : RD F tmp s ta m (fun tm1 s1 m1 => ∃ a k, valT s1 tm1 = some a ∧ m1 = ob (isK a kn) k ∧ ∀ c, K (.own (.f (.bl c))) s1 (k c))) : RD F tmp s (tCB (rIsi Kf) (tCons ta (tCons (tC (.ty kn.nm)) tNil))) m K := fun σ H Q hh nf eo q =>
  h σ H _ hh nf eo fun tm1 s1 x H1 ⟨a, k, ea, em, hk⟩ h1 => by
    obtain ⟨c, ec, em'⟩ := ob_cases (by rw [← em]; exact nf)
    have h3 := h1
    obtain ⟨G, ω, h2⟩ := h1
    have r := h2.repT h2.tm.1 ea
    have no : isO a = false := by cases a <;> first | rfl | cases ec
    exact ⟨x, .ty kn.nm, .type (tyN a), .type kn.nm, c, rfl, .ty _, ty_ok a x no r, kit_ty (kitB_ok a kn c ec), q _ s1 _ H1 (by rw [em, em']; exact hk c) (holds_bl h3.pop)⟩
end
end VL

namespace VL
open PySem L2
variable [EC]

/-! join, lists put together -/
theorem join_ok (a : List Nat) : ∀ ys : List (List Nat), Txt.join (mkS a) (ys.map mkS) = mkS (joinS a ys) := by
  intro ys
  show Builtin.Str.glued (mkS a) (ys.map mkS) = _
  rw [StrLaws.glued_eq_join]
  induction ys with
  | nil => rfl
  | cons x r ih =>
    cases r with
    | nil => rfl
    | cons y q =>
      show mkS x ++ mkS a ++ Str.join (mkS a) ((y :: q).map mkS) = mkS (x ++ a ++ joinS a (y :: q))
      rw [ih, mkS_app, mkS_app]
def rCatR : R2 := fun x y H Q => ∃ l b xs zs, x = .ref l ∧ y = .ref b ∧ Rd H l (.lst xs) ∧ Rd H b (.lst zs) ∧ xs.length + zs.length ≤ sizeLine ∧ ∀ p, H p = none → Q (.ref p) (upd H p (.lst (xs ++ zs)))
theorem op_catR {X : Cx} : OpR X (binaryOp .Add) rCatR := by
  intro pins s σ H x y v u Q I rx ry h
  obtain ⟨l, b, xs, zs, e1, e2, hH, hB, hz, q⟩ := h
  subst e1; subst e2
  cases rx
  cases ry
  obtain ⟨z, its, n, r, ho⟩ := hH.ok I.hok
  obtain ⟨z2, its2, n2, r2, ho2⟩ := hB.ok I.hok
  refine PySem.P.add_list ho ho2 ?_ (by rw [List.size_toArray, List.size_toArray, ← r.length, ← r2.length]; exact hz)
  rw [show its.toArray ++ its2.toArray = (its ++ its2).toArray by simp]
  exact ⟨.ref _, _, I.lnew (t' := s.toks) (r.append r2) (by rw [List.length_append]; exact hz), rfl, q _ I.fresh⟩
def catD : D → D → Option (List D)
  | .lst a, .lst b => if a.length + b.length ≤ 16777216 then some (a ++ b) else none
  | _, _ => none
theorem o_cat : Op2L rCatR catD := fun G H x y a b c Q sm ra rb e => by
  cases a <;> cases b <;> try (cases e; done)
  rename_i l m
  simp only [catD] at e
  split at e
  · rename_i hz
    cases e
    obtain ⟨p, vs, e1, g1, z1, r1⟩ := ra
    obtain ⟨p2, ws, e2, g2, z2, r2⟩ := rb
    refine ⟨by rw [sizeLine_eq, List.length_append]; exact hz, fun q => ⟨p, p2, vs, ws, e1, e2, g1, g2, by rw [← r1.length, ← r2.length, sizeLine_eq]; exact hz, fun p3 np => q p3 _ np (r1.append r2)⟩⟩
  · cases e
def repL (ds : List D) : D → Option (List D)
  | .int k => if k ≤ 1000000 ∧ -1000000 ≤ k ∧ ds.length * k.toNat ≤ 16777216 then some (List.replicate k.toNat ds).flatten else none
  | _ => none
theorem Reps.rep {G : Hp} {l : List D} {vs : List V} (h : Reps G l vs) : ∀ n, Reps G (List.replicate n l).flatten (List.replicate n vs).flatten
  | 0 => rfl
  | n + 1 => by
    rw [List.replicate_succ, List.replicate_succ, List.flatten_cons, List.flatten_cons]
    exact h.append (Reps.rep h n)
section
variable {R : Type} {F : Fc} {tmp : Tmp} {s : State} {m : Res R} {K : Rs R} {N : Rn R} {Rt : Rr R} {ta tb te to td ty tv : TE} {Kf : PySem.W.Frag}
theorem rd_rep (h : RD F tmp s ta m (fun tm1 s1 m1 => ∃ ds, tm1 = .own (.l ds) ∧ ∀ x, RD F ((x, .own (.l ds)) :: tmp) s1 tb m1 (fun tm2 s2 m2 => ∃ b k, valS s2 tm2 = some b ∧ m2 = ob (repL ds b) k ∧ ∀ c, K (.own (.l c)) s2 (k c)))) : RD F tmp s (tOp rRep ta tb) m K := fun σ H Q hh nf eo q =>
  h σ H _ hh nf eo fun tm1 s1 x H1 ⟨ds, e1, h2⟩ h1 => by
    subst e1
    refine h2 x σ H1 _ h1 nf eo fun tm2 s2 y H2 ⟨b, k, eb, em, hk⟩ h3 => ?_
    obtain ⟨c, ec, em'⟩ := ob_cases (by rw [← em]; exact nf)
    obtain ⟨G, ω, h4⟩ := h3
    have rb := h4.repC h4.tm.1 eb
    cases b <;> try (cases ec; done)
    rename_i i
    simp only [repL] at ec
    split at ec
    · rename_i hz
      cases ec
      obtain ⟨a, vs, e1, ha, hw, z, r⟩ := h4.tm.2.1
      have ey : y = .int i := rb
      refine ⟨a, i, vs, e1, ey, ha, by omega, by omega, by rw [← r.length, sizeLine_eq]; exact hz.2.2, fun p np => q _ s2 _ _ (by rw [em, em']; exact hk _) (h4.pop.pop.newL np ?_ (r.rep _))⟩
      rw [sizeLine_eq, List.length_flatten, List.map_replicate, List.sum_replicate_nat]
      rw [Nat.mul_comm]; exact hz.2.2
    · cases ec
/-- sep.join(xs) -/
theorem rd_join (h : RD F tmp s to m (fun tm1 s1 m1 => (∃ a0, valS s1 tm1 = some (.str a0)) ∧ ∀ x, RD F ((x, tm1) :: tmp) s1 te m1 (fun tm2 s2 m2 => ∃ a b k, valS s2 tm1 = some a ∧ valS s2 tm2 = some b ∧ m2 = ob (joinD a b) k ∧ ∀ c, K (.own (.f c)) s2 (k c)))) :
    RD F tmp s (tM1 (fun x xs H Q => ∃ a p ys, x = V.str a ∧ xs = [V.ref p] ∧ (SqL Kf H p (List.map V.str ys) ∨ SqT Kf H p (List.map V.str ys)) ∧ (List.map (fun x : Str => x.length) ys).sum + ys.length * a.length ≤ 16777216 ∧ Q (V.str (Txt.join a ys)) H) to te) m K := fun σ H Q hh nf eo q =>
  h σ H _ hh nf eo fun tm1 s1 x H1 ⟨⟨a0, e0⟩, h2⟩ h1 => by
    refine ⟨?_, h2 x σ H1 _ h1 nf eo fun tm2 s2 y H2 ⟨a, b, k, ea, eb, em, hk⟩ h3 => ?_⟩
    · obtain ⟨G, ω, h4⟩ := h1
      exact ⟨_, h4.repC h4.tm.1 e0⟩
    obtain ⟨c, ec, em'⟩ := ob_cases (by rw [← em]; exact nf)
    have h5 := h3
    obtain ⟨G, ω, h4⟩ := h3
    have ra := h4.repC h4.tm.2.1 ea
    have rb := h4.repC h4.tm.1 eb
    cases a <;> cases b <;> try (cases ec; done)
    rename_i z l
    simp only [joinD] at ec
    split at ec
    · rename_i ys hs
      split at ec
      · rename_i hz
        cases ec
        obtain ⟨p, vs, e1, g, zz, r⟩ := rb
        have hv := strs_ok hs r
        subst hv
        refine ⟨mkS z, p, ys.map mkS, ra, by rw [show y = .ref p from e1], .inl (.inl g), ?_, ?_⟩
        · rw [List.map_map, List.length_map, mkS_len]
          have : ((fun x : Str => x.length) ∘ mkS) = List.length := by funext w; exact mkS_len w
          rw [this]; exact hz
        · rw [join_ok]
          exact q _ s2 _ H2 (by rw [em, em']; exact hk _) (holds_push (d := .str _) h5.pop.pop fun _ => rfl)
      · cases ec
    · cases ec
/-! str of a whole number -/
def numS (i : Int) : List Nat := (Str.ofString (toString i)).cps.toList
end
def rStrI : List V → Hp → VK → Prop := fun xs H Q => ∃ i, xs = [.int i] ∧ i.natAbs.log2 < 1920 ∧ Q (.str (Str.ofString (toString i))) H
def strI : D → Option D
  | .int i => if i.natAbs < 1000000000000000000000000000000 then some (.str (numS i)) else none
  | _ => none
theorem o_strI : Op1C (fun x H Q => rStrI [x] H Q) strI := fun G H x a c Q sm ra e q => by
  cases a <;> try (cases e; done)
  rename_i i
  simp only [strI] at e
  split at e
  · rename_i hb
    cases e
    refine ⟨i, by rw [show x = .int i from ra], ?_, ?_⟩
    · by_cases h0 : i.natAbs = 0
      · rw [h0]; decide
      · rw [Nat.log2_lt h0]
        exact Nat.lt_of_lt_of_le hb (by decide)
    · have := q (.str (mkS (numS i))) rfl
      unfold numS at this
      rw [mkS_of] at this
      exact this
  · cases e
/-! dicts -/
def keyK : D → Option Key
  | .int i => some (.inl i)
  | .str x => some (.inr (mkS x))
  | _ => none
def keysK : List D → Option (List Key)
  | [] => some []
  | d :: r => match keyK d, keysK r with | some k, some q => some (k :: q) | _, _ => none
def keyT : D → Option (List Key) | .tup l => keysK l | _ => none
theorem keyK_kD {d : D} {k : Key} (h : keyK d = some k) : d = kD k := by
  cases d <;> try (cases h; done)
  · cases h; rfl
  · cases h; simp [kD, mkS_cps]
theorem keysK_kD : ∀ {l : List D} {q : List Key}, keysK l = some q → l = q.map kD
  | [], q, h => by cases h; rfl
  | d :: r, q, h => by
    simp only [keysK] at h
    split at h
    · rename_i k q' e1 e2
      cases h
      rw [List.map_cons, ← keyK_kD e1, ← keysK_kD e2]
    · cases h
theorem rep_key {H : Hp} {d : D} {k : Key} {y : V} (h : keyK d = some k) (r : Rep H d y) : y = kV k := by
  cases d <;> try (cases h; done)
  · cases h; exact r
  · cases h; exact r
theorem reps_keys {H : Hp} : ∀ {l : List D} {q : List Key} {vs : List V}, keysK l = some q → Reps H l vs → vs = q.map kV
  | [], q, vs, h, r => by cases h; exact r
  | d :: l, q, vs, h, ⟨v, r, e, r1, r2⟩ => by
    simp only [keysK] at h
    split at h
    · rename_i k q' e1 e2
      cases h
      rw [e, List.map_cons, rep_key e1 r1, reps_keys e2 r2]
    · cases h
theorem kD_eqv : ∀ (a b : Key), D.eqv (kD a) (kD b) = decide (a = b)
  | .inl a, .inl b => by
    show (a == b) = _
    by_cases h : a = b
    · subst h; simp
    · rw [beq_eq_false_iff_ne.mpr h]; exact (decide_eq_false fun z => h (Sum.inl.inj z)).symm
  | .inl a, .inr b => by rw [decide_eq_false fun z => nomatch z]; rfl
  | .inr a, .inl b => by rw [decide_eq_false fun z => nomatch z]; rfl
  | .inr a, .inr b => by
    show (a.cps.toList == b.cps.toList) = _
    by_cases h : a = b
    · subst h; simp
    · have h2 : ¬ a.cps.toList = b.cps.toList := fun z => h (by rw [← mkS_of a, ← mkS_of b, z])
      rw [beq_eq_false_iff_ne.mpr h2]; exact (decide_eq_false fun z => h (Sum.inr.inj z)).symm
theorem kDs_eqv : ∀ (a b : List Key), D.eqvs (a.map kD) (b.map kD) = decide (a = b)
  | [], [] => rfl
  | [], _ :: _ => rfl
  | _ :: _, [] => rfl
  | a :: r, b :: q => by
    show (D.eqv (kD a) (kD b) && D.eqvs (r.map kD) (q.map kD)) = _
    rw [kD_eqv, kDs_eqv r q, ← Bool.decide_and]
    congr 1
    simp
def keyOk (k : Bool) (d : D) : Bool := if k = true then (keyT d).isSome else (keyK d).isSome
def findD (l : List (D × D)) (d : D) : Option D := (l.find? fun kv => D.eqv kv.1 d).map (·.2)
def storeD (l : List (D × D)) (d v : D) : List (D × D) := if (l.any fun kv => D.eqv kv.1 d) = true then l.map (fun kv => if D.eqv kv.1 d = true then (kv.1, v) else kv) else l ++ [(d, v)]
theorem repK_find {G : Hp} {kk : Key} {d : D} (hd : d = kD kk) : ∀ {l : List (D × D)} {kvs : List (Key × V)}, RepK G l kvs →
    (findD l d = none ∧ valV kvs kk = none) ∨ ∃ c v, findD l d = some c ∧ valV kvs kk = some v ∧ Rep G c v
  | [], _, h => by cases (show _ = [] from h); exact .inl ⟨rfl, rfl⟩
  | (k, c) :: r, _, ⟨k', v, q, e, ek, rc, h⟩ => by
    subst e; subst hd; subst ek
    unfold findD valV
    rw [List.find?_cons, List.find?_cons]
    show (_ ∧ _) ∨ _
    rw [kD_eqv]
    by_cases e : k' = kk
    · rw [decide_eq_true e]; exact .inr ⟨c, v, rfl, rfl, rc⟩
    · rw [decide_eq_false e]; exact repK_find rfl h
theorem repT_find {G : Hp} {kk : List Key} {d : D} (hd : d = .tup (kk.map kD)) : ∀ {l : List (D × D)} {kvs : List (List Key × V)}, RepT G l kvs →
    (findD l d = none ∧ valV kvs kk = none) ∨ ∃ c v, findD l d = some c ∧ valV kvs kk = some v ∧ Rep G c v
  | [], _, h => by cases (show _ = [] from h); exact .inl ⟨rfl, rfl⟩
  | (k, c) :: r, _, ⟨k', v, q, e, ek, rc, h⟩ => by
    subst e; subst hd; subst ek
    unfold findD valV
    rw [List.find?_cons, List.find?_cons]
    show (_ ∧ _) ∨ _
    rw [show D.eqv (.tup (k'.map kD)) (.tup (kk.map kD)) = decide (k' = kk) from kDs_eqv k' kk]
    by_cases e : k' = kk
    · rw [decide_eq_true e]; exact .inr ⟨c, v, rfl, rfl, rc⟩
    · rw [decide_eq_false e]; exact repT_find rfl h
theorem dget_any {G H : Hp} {k : Bool} {l : List (D × D)} {d : D} {x y : V} (sm : Same G H) (rx : RepC G H (.dct k l) x) (ry : RepC G H d y) (ok : keyOk k d = true) :
    ∃ a o, x = .ref a ∧ DGet H a y o ∧ ((findD l d = none ∧ o = none) ∨ ∃ c v, findD l d = some c ∧ o = some v ∧ Rep G c v) := by
  have ry' := ry.toR sm
  cases k with
  | false =>
    obtain ⟨a, kvs, e, g, r⟩ := rx
    obtain ⟨kk, hk⟩ := Option.isSome_iff_exists.mp (show (keyK d).isSome = true from ok)
    rw [rep_key hk ry']
    refine ⟨a, valV kvs kk, e, .inl ⟨kvs, kk, g, rfl, rfl⟩, ?_⟩
    rcases repK_find (keyK_kD hk) r with ⟨h1, h2⟩ | ⟨c, v, h1, h2, h3⟩
    · exact .inl ⟨h1, h2⟩
    · exact .inr ⟨c, v, h1, h2, h3⟩
  | true =>
    obtain ⟨a, kvs, e, g, r⟩ := rx
    obtain ⟨kk, hk⟩ := Option.isSome_iff_exists.mp (show (keyT d).isSome = true from ok)
    cases d <;> try (cases hk; done)
    rename_i ks
    have hk' : keysK ks = some kk := hk
    obtain ⟨b, vs, e2, g2, _, r2⟩ := ry'
    have hv := reps_keys hk' r2
    rw [hv] at g2
    rw [e2]
    refine ⟨a, valV kvs kk, e, .t g g2, ?_⟩
    rcases repT_find (by rw [keysK_kD hk'] : D.tup ks = .tup (kk.map kD)) r with ⟨h1, h2⟩ | ⟨c, v, h1, h2, h3⟩
    · exact .inl ⟨h1, h2⟩
    · exact .inr ⟨c, v, h1, h2, h3⟩
theorem repK_store {G : Hp} {kk : Key} {d c : D} {v : V} (hd : d = kD kk) (rc : Rep G c v) {l : List (D × D)} {kvs : List (Key × V)} (h : RepK G l kvs) : RepK G (storeD l d c) (putK kvs kk v) := by
  subst hd
  have hany : ∀ {l : List (D × D)} {kvs : List (Key × V)}, RepK G l kvs → (l.any fun kv => D.eqv kv.1 (kD kk)) = kvs.any fun kv => decide (kv.1 = kk) := by
    intro l
    induction l with
    | nil => intro kvs h; cases (show kvs = [] from h); rfl
    | cons kv r ih =>
      obtain ⟨k, c'⟩ := kv
      intro kvs ⟨k', v', q, e, ek, rc', h'⟩
      subst e; subst ek
      rw [List.any_cons, List.any_cons, ih h', kD_eqv]
  have hmap : ∀ {l : List (D × D)} {kvs : List (Key × V)}, RepK G l kvs → RepK G (l.map fun kv => if D.eqv kv.1 (kD kk) = true then (kv.1, c) else kv) (kvs.map fun kv => if kv.1 = kk then (kv.1, v) else kv) := by
    intro l
    induction l with
    | nil => intro kvs h; cases (show kvs = [] from h); exact rfl
    | cons kv r ih =>
      obtain ⟨k, c'⟩ := kv
      intro kvs ⟨k', v', q, e, ek, rc', h'⟩
      subst e; subst ek
      rw [List.map_cons, List.map_cons]
      simp only [kD_eqv]
      by_cases e : k' = kk
      · simp only [e, decide_true, if_true]
        exact ⟨kk, v, _, rfl, rfl, rc, by simpa only [kD_eqv] using ih h'⟩
      · simp only [e, decide_false, Bool.false_eq_true, if_false]
        exact ⟨k', v', _, rfl, rfl, rc', by simpa only [kD_eqv] using ih h'⟩
  have happ : ∀ {l : List (D × D)} {kvs : List (Key × V)}, RepK G l kvs → RepK G (l ++ [(kD kk, c)]) (kvs ++ [(kk, v)]) := by
    intro l
    induction l with
    | nil => intro kvs h; cases (show kvs = [] from h); exact ⟨kk, v, [], rfl, rfl, rc, rfl⟩
    | cons kv r ih =>
      obtain ⟨k, c'⟩ := kv
      intro kvs ⟨k', v', q, e, ek, rc', h'⟩
      subst e
      exact ⟨k', v', _, rfl, ek, rc', ih h'⟩
  unfold storeD putK
  rw [hany h]
  split
  · exact hmap h
  · exact happ h
theorem repT_store {G : Hp} {kk : List Key} {d c : D} {v : V} (hd : d = .tup (kk.map kD)) (rc : Rep G c v) {l : List (D × D)} {kvs : List (List Key × V)} (h : RepT G l kvs) : RepT G (storeD l d c) (putK kvs kk v) := by
  subst hd
  have key : ∀ k' : List Key, D.eqv (.tup (k'.map kD)) (.tup (kk.map kD)) = decide (k' = kk) := fun k' => kDs_eqv k' kk
  have hany : ∀ {l : List (D × D)} {kvs : List (List Key × V)}, RepT G l kvs → (l.any fun kv => D.eqv kv.1 (.tup (kk.map kD))) = kvs.any fun kv => decide (kv.1 = kk) := by
    intro l
    induction l with
    | nil => intro kvs h; cases (show kvs = [] from h); rfl
    | cons kv r ih =>
      obtain ⟨k, c'⟩ := kv
      intro kvs ⟨k', v', q, e, ek, rc', h'⟩
      subst e; subst ek
      rw [List.any_cons, List.any_cons, ih h', key]
  have hmap : ∀ {l : List (D × D)} {kvs : List (List Key × V)}, RepT G l kvs → RepT G (l.map fun kv => if D.eqv kv.1 (.tup (kk.map kD)) = true then (kv.1, c) else kv) (kvs.map fun kv => if kv.1 = kk then (kv.1, v) else kv) := by
    intro l
    induction l with
    | nil => intro kvs h; cases (show kvs = [] from h); exact rfl
    | cons kv r ih =>
      obtain ⟨k, c'⟩ := kv
      intro kvs ⟨k', v', q, e, ek, rc', h'⟩
      subst e; subst ek
      rw [List.map_cons, List.map_cons]
      simp only [key]
      by_cases e : k' = kk
      · simp only [e, decide_true, if_true]
        exact ⟨kk, v, _, rfl, rfl, rc, by simpa only [key] using ih h'⟩
      · simp only [e, decide_false, Bool.false_eq_true, if_false]
        exact ⟨k', v', _, rfl, rfl, rc', by simpa only [key] using ih h'⟩
  have happ : ∀ {l : List (D × D)} {kvs : List (List Key × V)}, RepT G l kvs → RepT G (l ++ [(.tup (kk.map kD), c)]) (kvs ++ [(kk, v)]) := by
    intro l
    induction l with
    | nil => intro kvs h; cases (show kvs = [] from h); exact ⟨kk, v, [], rfl, rfl, rc, rfl⟩
    | cons kv r ih =>
      obtain ⟨k, c'⟩ := kv
      intro kvs ⟨k', v', q, e, ek, rc', h'⟩
      subst e
      exact ⟨k', v', _, rfl, ek, rc', ih h'⟩
  unfold storeD putK
  rw [hany h]
  split
  · exact hmap h
  · exact happ h
def dgetD (a d : D) : Option D := match a with | .dct k l => if keyOk k d = true then findD l d else none | _ => none
def dget1D (a d : D) : Option D := match a with | .dct k l => if keyOk k d = true then some ((findD l d).getD .non) else none | _ => none
def dget2D (a d z : D) : Option D := match a with | .dct k l => if keyOk k d = true then some ((findD l d).getD z) else none | _ => none
def dinD (d a : D) : Option Bool := match a with | .dct k l => if keyOk k d = true then some (findD l d).isSome else none | _ => none
def dputD (k : Bool) (l : List (D × D)) (d v : D) : Option (List (D × D)) := if keyOk k d = true ∧ l.length < 16777216 then some (storeD l d v) else none
section
variable {R : Type} {F : Fc} {tmp : Tmp} {s : State} {m : Res R} {K : Rs R} {N : Rn R} {Rt : Rr R} {ta tb te to td ty tv tx : TE} {Kf : PySem.W.Frag}
theorem rd_dget (h : RD F tmp s td m (fun tm1 s1 m1 => ∀ x, RD F ((x, tm1) :: tmp) s1 ty m1 (fun tm2 s2 m2 => ∃ a b k, valS s2 tm1 = some a ∧ valS s2 tm2 = some b ∧ m2 = ob (dgetD a b) k ∧ ∀ c, K (.own (.f c)) s2 (k c)))) : RD F tmp s (tDGet td ty) m K := fun σ H Q hh nf eo q =>
  h σ H _ hh nf eo fun tm1 s1 x H1 h2 h1 => h2 x σ H1 _ h1 nf eo fun tm2 s2 y H2 ⟨a, b, k, ea, eb, em, hk⟩ h3 => by
    obtain ⟨c, ec, em'⟩ := ob_cases (by rw [← em]; exact nf)
    obtain ⟨G, ω, h3⟩ := h3
    have ra := h3.repC h3.tm.2.1 ea
    have rb := h3.repC h3.tm.1 eb
    cases a <;> try (cases ec; done)
    simp only [dgetD] at ec
    split at ec
    · rename_i ok
      obtain ⟨p, o, e1, g, w⟩ := dget_any h3.gH ra rb ok
      rcases w with ⟨w1, _⟩ | ⟨c', v, w1, w2, w3⟩
      · rw [w1] at ec; cases ec
      · rw [w1] at ec; cases ec
        rw [w2] at g
        exact ⟨p, v, e1, g, q _ s2 v H2 (by rw [em, em']; exact hk _) ⟨G, ω, h3.pop.pop.pushF w3⟩⟩
    · cases ec
theorem rd_dget1 (h : RD F tmp s td m (fun tm1 s1 m1 => (∃ k0 l0, valS s1 tm1 = some (.dct k0 l0)) ∧ ∀ x, RD F ((x, tm1) :: tmp) s1 ty m1 (fun tm2 s2 m2 => ∃ a b k, valS s2 tm1 = some a ∧ valS s2 tm2 = some b ∧ m2 = ob (dget1D a b) k ∧ ∀ c, K (.own (.f c)) s2 (k c)))) : RD F tmp s (tDGet1 td ty) m K := fun σ H Q hh nf eo q =>
  h σ H _ hh nf eo fun tm1 s1 x H1 ⟨⟨k0, l0, e0⟩, h2⟩ h1 => by
    have hd : ∃ a, x = .ref a ∧ IsD H1 a := by
      obtain ⟨G, ω, h3⟩ := h1
      have r := h3.repC h3.tm.1 e0
      cases k0 with
      | false => obtain ⟨a, kvs, e, g, _⟩ := r; exact ⟨a, e, .inl ⟨kvs, g⟩⟩
      | true => obtain ⟨a, kvs, e, g, _⟩ := r; exact ⟨a, e, .inr ⟨kvs, .inl g⟩⟩
    obtain ⟨a0, ea0, hisd⟩ := hd
    refine ⟨a0, ea0, hisd, h2 x σ H1 _ h1 nf eo fun tm2 s2 y H2 ⟨a, b, k, ea, eb, em, hk⟩ h3 => ?_⟩
    obtain ⟨c, ec, em'⟩ := ob_cases (by rw [← em]; exact nf)
    have h4 := h3
    obtain ⟨G, ω, h3⟩ := h3
    have ra := h3.repC h3.tm.2.1 ea
    have rb := h3.repC h3.tm.1 eb
    cases a <;> try (cases ec; done)
    simp only [dget1D] at ec
    split at ec
    · rename_i ok
      obtain ⟨p, o, e1, g, w⟩ := dget_any h3.gH ra rb ok
      have e1' : x = .ref p := e1
      rw [ea0] at e1'; cases e1'
      refine ⟨o, g, ?_⟩
      rcases w with ⟨w1, w2⟩ | ⟨c', v, w1, w2, w3⟩
      · rw [w1] at ec; cases ec
        rw [w2]
        exact q _ s2 .non H2 (by rw [em, em']; exact hk _) (holds_push (d := .non) h4.pop.pop fun _ => rfl)
      · rw [w1] at ec; cases ec
        rw [w2]
        exact q _ s2 v H2 (by rw [em, em']; exact hk _) ⟨G, ω, h3.pop.pop.pushF w3⟩
    · cases ec
theorem din_core {b : Bool} {f : Bool → Bool} {σ : St} {H1 : Hp} {tm1 tm2 : TM} {s2 : State} {x y : V} {d a : D} (h3 : Holds F ((x, tm2) :: (y, tm1) :: tmp) s2 σ H1) (ed : valS s2 tm1 = some d) (ea : valS s2 tm2 = some a) (ec : dinD d a = some b) : ∃ p o, x = .ref p ∧ DGet H1 p y o ∧ o.isSome = b := by
  obtain ⟨G, ω, h3⟩ := h3
  have rd := h3.repC h3.tm.2.1 ed
  have ra := h3.repC h3.tm.1 ea
  cases a <;> try (cases ec; done)
  simp only [dinD] at ec
  split at ec
  · rename_i ok
    cases ec
    obtain ⟨p, o, e1, g, w⟩ := dget_any h3.gH ra rd ok
    refine ⟨p, o, e1, g, ?_⟩
    rcases w with ⟨w1, w2⟩ | ⟨c', v, w1, w2, w3⟩ <;> (rw [w1, w2]; rfl)
  · cases ec
theorem rt_din {K : Bool → State → Res R → Prop} (h : RD F tmp s ty m (fun tm1 s1 m1 => ∀ y, RD F ((y, tm1) :: tmp) s1 td m1 (fun tm2 s2 m2 => ∃ d a k, valS s2 tm1 = some d ∧ valS s2 tm2 = some a ∧ m2 = ob (dinD d a) k ∧ ∀ c, K c s2 (k c)))) : RT F tmp s m (tB (tDIn ty td)) K := fun σ H Q hh nf eo q =>
  h σ H _ hh nf eo fun tm1 s1 y H1 h2 h1 => h2 y σ H1 _ h1 nf eo fun tm2 s2 x H2 ⟨d, a, k, ed, ea, em, hk⟩ h3 => by
    obtain ⟨c, ec, em'⟩ := ob_cases (by rw [← em]; exact nf)
    obtain ⟨p, o, e1, g, e2⟩ := din_core (f := id) h3 ed ea ec
    exact ⟨p, o, e1, g, c, by rw [e2], q _ s2 H2 (by rw [em, em']; exact hk _) h3.pop.pop⟩
theorem rt_dnotin {K : Bool → State → Res R → Prop} (h : RD F tmp s ty m (fun tm1 s1 m1 => ∀ y, RD F ((y, tm1) :: tmp) s1 td m1 (fun tm2 s2 m2 => ∃ d a k, valS s2 tm1 = some d ∧ valS s2 tm2 = some a ∧ m2 = ob (dinD d a) k ∧ ∀ c, K (!c) s2 (k c)))) : RT F tmp s m (tB (tDNotIn ty td)) K := fun σ H Q hh nf eo q =>
  h σ H _ hh nf eo fun tm1 s1 y H1 h2 h1 => h2 y σ H1 _ h1 nf eo fun tm2 s2 x H2 ⟨d, a, k, ed, ea, em, hk⟩ h3 => by
    obtain ⟨c, ec, em'⟩ := ob_cases (by rw [← em]; exact nf)
    obtain ⟨p, o, e1, g, e2⟩ := din_core (f := id) h3 ed ea ec
    exact ⟨p, o, e1, g, !c, by rw [e2], q _ s2 H2 (by rw [em, em']; exact hk _) h3.pop.pop⟩
theorem rd_dnewK (k : K (.own (.dc false [])) s m) : RD F tmp s tDNewK m K := fun σ H Q hh nf eo q => fun p np => by
  obtain ⟨G, ω, h⟩ := hh
  exact q _ s _ _ k ⟨G, _, h.newO np ⟨p, [], rfl, by simp, upd_same, rfl⟩⟩
theorem rd_dnewT (k : K (.own (.dc true [])) s m) : RD F tmp s tDNewT m K := fun σ H Q hh nf eo q => fun p np => by
  obtain ⟨G, ω, h⟩ := hh
  exact q _ s _ _ k ⟨G, _, h.newO np ⟨p, [], rfl, by simp, upd_same, rfl⟩⟩
/-- an owned dict in slot i -/
theorem Holds.wrDict {σ : St} {H : Hp} {c d : D} {x y : V} {k : Bool} (h : Holds F ((y, .own (.f d)) :: (x, .own (.f c)) :: tmp) s σ H) {i : Nat} {l : List (D × D)} (hi : s[i]? = some (some (.dc k l))) (ok : keyOk k d = true) (hz : l.length < 16777216) :
    ∃ a H', σ[i]? = some (some (.ref a)) ∧ DPut H a y x H' ∧ Holds F tmp (s.set i (some (.dc k (storeD l d c)))) σ H' := by
  obtain ⟨G, ω, h⟩ := h
  have ry : Rep G d y := h.tm.1
  have rx : Rep G c x := h.tm.2.1
  have fin : ∀ {a : Addr} {o : HO}, ω a = some [0, i] → σ[i]? = some (some (.ref a)) → Own G (upd H a o) ω [0, i] (.dc k (storeD l d c)) (.ref a) → Holds F tmp (s.set i (some (.dc k (storeD l d c)))) σ (upd H a o) := fun {a o} hw e1 q => by
    refine ⟨G, ω, (h.pop.pop).wr hw o (by simp) (fun j u e => ?_) (Tms.wrO hw tmp (fun j hj => by simp [pre]) h.tm.2.2)⟩
    have hil : i < s.length := (List.getElem?_eq_some_iff.mp hi).1
    by_cases hj : i = j
    · subst hj
      rw [List.getElem?_set_self hil] at e
      cases e
      exact ⟨_, e1, q⟩
    · rw [List.getElem?_set_ne hj] at e
      obtain ⟨v', b1, b2⟩ := h.sl j u e
      exact ⟨v', b1, Own.wrO hw (by simp [pre]; exact fun z => hj z.symm) b2⟩
  cases k with
  | false =>
    obtain ⟨v, e1, a, kvs, e2, hw, ha, r⟩ := h.sl i _ hi
    subst e2
    obtain ⟨kk, hk⟩ := Option.isSome_iff_exists.mp (show (keyK d).isSome = true from ok)
    have hl : kvs.length < sizeLine := by
      have : ∀ {l : List (D × D)} {kvs : List (Key × V)}, RepK G l kvs → l.length = kvs.length := by
        intro l
        induction l with
        | nil => intro kvs h; cases (show kvs = [] from h); rfl
        | cons kv r ih =>
          obtain ⟨k, c'⟩ := kv
          intro kvs ⟨k', v', q, e, ek, rc', h'⟩
          subst e
          simp [ih h']
      rw [← this r, sizeLine_eq]; exact hz
    refine ⟨a, _, e1, by rw [rep_key hk (Rep.mono h.gH _ _ ry)]; exact .k ha hl, fin hw e1 ⟨a, _, rfl, hw, upd_same, repK_store (keyK_kD hk) rx r⟩⟩
  | true =>
    obtain ⟨v, e1, a, kvs, e2, hw, ha, r⟩ := h.sl i _ hi
    subst e2
    obtain ⟨kk, hk⟩ := Option.isSome_iff_exists.mp (show (keyT d).isSome = true from ok)
    have hl : kvs.length < sizeLine := by
      have : ∀ {l : List (D × D)} {kvs : List (List Key × V)}, RepT G l kvs → l.length = kvs.length := by
        intro l
        induction l with
        | nil => intro kvs h; cases (show kvs = [] from h); rfl
        | cons kv r ih =>
          obtain ⟨k, c'⟩ := kv
          intro kvs ⟨k', v', q, e, ek, rc', h'⟩
          subst e
          simp [ih h']
      rw [← this r, sizeLine_eq]; exact hz
    cases d <;> try (cases hk; done)
    rename_i ks
    have hk' : keysK ks = some kk := hk
    obtain ⟨b, vs, e2, g2, _, r2⟩ := Rep.mono h.gH _ _ ry
    have hv := reps_keys hk' r2
    rw [hv] at g2
    rw [e2]
    exact ⟨a, _, e1, .t ha g2 hl, fin hw e1 ⟨a, _, rfl, hw, upd_same, repT_store (by rw [keysK_kD hk'] : D.tup ks = .tup (kk.map kD)) rx r⟩⟩
theorem rs_dput (h : RD F tmp s tv m (fun tm1 s1 m1 => ∃ c, tm1 = .own (.f c) ∧ ∀ v, RD F ((v, .own (.f c)) :: tmp) s1 td m1 (fun tm2 s2 m2 => ∃ i, tm2 = .ali i ∧ ∀ x, RD F ((x, .ali i) :: (v, .own (.f c)) :: tmp) s2 ty m2 (fun tm3 s3 m3 => ∃ d kf l k, tm3 = .own (.f d) ∧ s3[i]? = some (some (.dc kf l)) ∧ m3 = ob (dputD kf l d c) k ∧ ∀ l', N (s3.set i (some (.dc kf l'))) (k l'))))) :
    RS F tmp s m (sDPut td ty tv) N Rt := fun σ H De hh nf eo nx rt =>
  h σ H _ hh nf eo fun tm1 s1 v H1 ⟨c, e1, h2⟩ h1 => by
    subst e1
    refine h2 v σ H1 _ h1 nf eo fun tm2 s2 x H2 ⟨i, e2, h4⟩ h3 => ?_
    subst e2
    refine h4 x σ H2 _ h3 nf eo fun tm3 s3 y H3 ⟨d, kf, l, k, e3, hi, em, hk⟩ h5 => ?_
    subst e3
    obtain ⟨c', ec, em'⟩ := ob_cases (by rw [← em]; exact nf)
    unfold dputD at ec
    split at ec
    · rename_i ok
      cases ec
      have hx : σ[i]? = some (some x) := by obtain ⟨G, ω, h6⟩ := h5; exact h6.tm.2.1
      have h6 : Holds F ((y, .own (.f d)) :: (v, .own (.f c)) :: tmp) s3 σ H3 := Holds.dropMid (ex := [(x, .ali i)]) [(y, .own (.f d))] h5
      obtain ⟨a, H', sa, put, h7⟩ := h6.wrDict hi ok.1 ok.2
      rw [hx] at sa; cases sa
      exact ⟨a, H', rfl, put, nx _ σ H' (by rw [em, em']; exact hk _) h7⟩
    · cases ec
end
end VL

namespace VL
open PySem L2
variable [EC]

/-! a call that reads owned things -/
mutual
def T.fl : T → Bool
  | .f d => d.flat
  | .l ds => ds.all D.flat
  | .ll ts => T.fls ts
  | .tt ts => T.fls ts
  | .dc _ kvs => kvs.all fun kv => kv.2.flat
  | .dl _ ts => T.fls ts
  | .hole _ => true
def T.fls : List T → Bool
  | [] => true
  | t :: r => T.fl t && T.fls r
end
theorem Rep.flat {G G' : Hp} : ∀ {d : D} {v : V}, d.flat = true → Rep G d v → Rep G' d v
  | .non, _, _, h => h
  | .bl _, _, _, h => h
  | .int _, _, _, h => h
  | .str _, _, _, h => h
  | .tup _, _, f, _ => by cases f
  | .lst _, _, f, _ => by cases f
  | .dct _ _, _, f, _ => by cases f
  | .opq _, _, f, _ => by cases f
  | .exc _ _, _, f, _ => by cases f
  | .fd _ _ _, _, f, _ => by cases f
theorem Reps.flat {G G' : Hp} : ∀ {l : List D} {vs : List V}, l.all D.flat = true → Reps G l vs → Reps G' l vs
  | [], _, _, h => h
  | d :: r, _, f, ⟨v, q, e, h, k⟩ => by
    simp only [List.all_cons, Bool.and_eq_true] at f
    exact ⟨v, q, e, Rep.flat f.1 h, Reps.flat f.2 k⟩
theorem RepK.flat {G G' : Hp} : ∀ {l : List (D × D)} {vs : List (Key × V)}, (l.all fun kv => kv.2.flat) = true → RepK G l vs → RepK G' l vs
  | [], _, _, h => h
  | (a, d) :: r, _, f, ⟨kk, v, q, e, ek, h, k⟩ => by
    simp only [List.all_cons, Bool.and_eq_true] at f
    exact ⟨kk, v, q, e, ek, Rep.flat f.1 h, RepK.flat f.2 k⟩
theorem RepT.flat {G G' : Hp} : ∀ {l : List (D × D)} {vs : List (List Key × V)}, (l.all fun kv => kv.2.flat) = true → RepT G l vs → RepT G' l vs
  | [], _, _, h => h
  | (a, d) :: r, _, f, ⟨kk, v, q, e, ek, h, k⟩ => by
    simp only [List.all_cons, Bool.and_eq_true] at f
    exact ⟨kk, v, q, e, ek, Rep.flat f.1 h, RepT.flat f.2 k⟩
mutual
theorem Own.flat {G G' H H' : Hp} {ω ω' : Addr → Option Lab} : ∀ (p q : Lab) (t : T) (v : V), t.fl = true → (∀ a x, ω a = some (p ++ x) → H' a = H a ∧ ω' a = some (q ++ x)) → Own G H ω p t v → Own G' H' ω' q t v
  | _, _, .f d, v, f, _, h => Rep.flat f h
  | p, q, .l ds, v, f, m, ⟨a, vs, e, h, w, z, r⟩ => by
    obtain ⟨m1, m2⟩ := m a [] (by rw [List.append_nil]; exact w)
    rw [List.append_nil] at m2
    exact ⟨a, vs, e, m1.trans h, m2, z, Reps.flat f r⟩
  | p, q, .ll ts, v, f, m, ⟨a, vs, e, h, w, z, r⟩ => by
    obtain ⟨m1, m2⟩ := m a [] (by rw [List.append_nil]; exact w)
    rw [List.append_nil] at m2
    exact ⟨a, vs, e, m1.trans h, m2, z, Owns.flat p q 0 ts vs f m r⟩
  | p, q, .tt ts, v, f, m, ⟨a, vs, e, h, w, z, r⟩ => by
    obtain ⟨m1, m2⟩ := m a [] (by rw [List.append_nil]; exact w)
    rw [List.append_nil] at m2
    exact ⟨a, vs, e, m1.trans h, m2, z, Owns.flat p q 0 ts vs f m r⟩
  | p, q, .dc false l, v, f, m, ⟨a, kvs, e, w, h, r⟩ => by
    obtain ⟨m1, m2⟩ := m a [] (by rw [List.append_nil]; exact w)
    rw [List.append_nil] at m2
    exact ⟨a, kvs, e, m2, m1.trans h, RepK.flat f r⟩
  | p, q, .dc true l, v, f, m, ⟨a, kvs, e, w, h, r⟩ => by
    obtain ⟨m1, m2⟩ := m a [] (by rw [List.append_nil]; exact w)
    rw [List.append_nil] at m2
    exact ⟨a, kvs, e, m2, m1.trans h, RepT.flat f r⟩
  | p, q, .dl ks ts, v, f, m, ⟨a, kvs, e, w, h, ek, r⟩ => by
    obtain ⟨m1, m2⟩ := m a [] (by rw [List.append_nil]; exact w)
    rw [List.append_nil] at m2
    exact ⟨a, kvs, e, m2, m1.trans h, ek, Owns.flat p q 0 ts _ f m r⟩
  | _, _, .hole _, _, _, _, h => h
theorem Owns.flat {G G' H H' : Hp} {ω ω' : Addr → Option Lab} : ∀ (p q : Lab) (i : Nat) (ts : List T) (vs : List V), T.fls ts = true → (∀ a x, ω a = some (p ++ x) → H' a = H a ∧ ω' a = some (q ++ x)) → Owns G H ω p i ts vs → Owns G' H' ω' q i ts vs
  | _, _, _, [], _, _, _, h => h
  | p, q, i, t :: ts, _, f, m, ⟨v, r, e, h, k⟩ => by
    simp only [T.fls, Bool.and_eq_true] at f
    exact ⟨v, r, e, Own.flat (p ++ [i]) (q ++ [i]) t v f.1 (fun a x e => by
      rw [List.append_assoc] at e ⊢
      exact m a _ e) h, Owns.flat p q (i + 1) ts r f.2 m k⟩
end
def argOk (s : State) (bs : List Nat) : List TM → List TM → List T → Prop
  | [], [], [] => True
  | .own t :: r, .own _ :: q, u :: w => t = u ∧ argOk s bs r q w
  | .ali i :: r, .ali j :: q, u :: w => i = j ∧ s[i]? = some (some u) ∧ i ∉ bs ∧ argOk s bs r q w
  | .ali i :: r, .own _ :: q, u :: w => i ∈ bs ∧ (∃ d, valT s (.ali i) = some d ∧ u = .f d) ∧ argOk s bs r q w
  | _, _, _ => False
theorem argOk_len {s : State} {bs : List Nat} : ∀ {tms mk : List TM} {ts : List T}, argOk s bs tms mk ts → tms.length = ts.length ∧ mk.length = ts.length
  | [], [], [], _ => ⟨rfl, rfl⟩
  | .own t :: r, .own _ :: q, u :: w, h => by have := argOk_len h.2; simp [this.1, this.2]
  | .ali i :: r, .ali j :: q, u :: w, h => by have := argOk_len h.2.2.2; simp [this.1, this.2]
  | .ali i :: r, .own _ :: q, u :: w, h => by have := argOk_len h.2.2; simp [this.1, this.2]
theorem argOk_get {s : State} {bs : List Nat} : ∀ {tms mk : List TM} {ts : List T}, argOk s bs tms mk ts → ∀ (k : Nat) (u : T), ts[k]? = some u → ∃ tm, tms[k]? = some tm ∧
    (tm = .own u ∨ (∃ i, tm = .ali i ∧ mk[k]? = some (.ali i) ∧ s[i]? = some (some u)) ∨ ∃ i d, tm = .ali i ∧ i ∈ bs ∧ valT s (.ali i) = some d ∧ u = .f d)
  | [], [], [], _, k, u, e => by simp at e
  | .own t :: r, .own x :: q, u0 :: w, h, 0, u, e => by simp at e; subst e; exact ⟨_, rfl, .inl (by rw [h.1])⟩
  | .ali i :: r, .ali j :: q, u0 :: w, h, 0, u, e => by simp at e; subst e; exact ⟨_, rfl, .inr (.inl ⟨i, rfl, by rw [h.1]; rfl, h.2.1⟩)⟩
  | .ali i :: r, .own x :: q, u0 :: w, h, 0, u, e => by
    simp at e; subst e
    obtain ⟨d, d1, d2⟩ := h.2.1
    exact ⟨_, rfl, .inr (.inr ⟨i, d, rfl, h.1, d1, d2⟩)⟩
  | .own t :: r, .own x :: q, u0 :: w, h, k + 1, u, e => by
    obtain ⟨tm, a, b⟩ := argOk_get h.2 k u (by simpa using e)
    exact ⟨tm, by simpa using a, by simpa using b⟩
  | .ali i :: r, .ali j :: q, u0 :: w, h, k + 1, u, e => by
    obtain ⟨tm, a, b⟩ := argOk_get h.2.2.2 k u (by simpa using e)
    exact ⟨tm, by simpa using a, by simpa using b⟩
  | .ali i :: r, .own x :: q, u0 :: w, h, k + 1, u, e => by
    obtain ⟨tm, a, b⟩ := argOk_get h.2.2 k u (by simpa using e)
    exact ⟨tm, by simpa using a, by simpa using b⟩
theorem argOk_ali {s : State} {bs : List Nat} : ∀ {tms mk : List TM} {ts : List T}, argOk s bs tms mk ts → ∀ (k i : Nat), mk[k]? = some (.ali i) → tms[k]? = some (.ali i) ∧ i ∉ bs
  | [], [], [], _, k, i, e => by simp at e
  | .own t :: r, .own x :: q, u0 :: w, h, 0, i, e => by simp at e
  | .ali i0 :: r, .ali j :: q, u0 :: w, h, 0, i, e => by simp at e; subst e; exact ⟨by rw [h.1]; rfl, by rw [← h.1]; exact h.2.2.1⟩
  | .ali i0 :: r, .own x :: q, u0 :: w, h, 0, i, e => by simp at e
  | .own t :: r, .own x :: q, u0 :: w, h, k + 1, i, e => by have := argOk_ali h.2 k i (by simpa using e); simpa using this
  | .ali i0 :: r, .ali j :: q, u0 :: w, h, k + 1, i, e => by have := argOk_ali h.2.2.2 k i (by simpa using e); simpa using this
  | .ali i0 :: r, .own x :: q, u0 :: w, h, k + 1, i, e => by have := argOk_ali h.2.2 k i (by simpa using e); simpa using this
def bor (bs : List Nat) : Lab → Bool
  | 0 :: i :: _ => bs.contains i
  | _ => false
def borG (G H : Hp) (ω : Addr → Option Lab) (bs : List Nat) : Hp := fun a => match ω a with
  | some l => if bor bs l = true then H a else G a
  | none => G a
def outG (G' : Hp) (ω : Addr → Option Lab) (bs : List Nat) : Hp := fun a => match ω a with
  | some l => if bor bs l = true then none else G' a
  | none => G' a
theorem rd_callBG {A R R' : Type} {ec : Nat → Addr} {ea : A → List T} {mir : A → Res R'} {er : R' → T} {eo : R' → List (Option T)} {F : Fc} {tmp : Tmp} {s : State} {m : Res R} {K : Rs R} {t : TA} {E : XK} (bs : List Nat) (hec : F.ec = ec) (hE : (∀ c d H', F.E c d H' → E c d H') ∨ ∀ a e, mir a ≠ .err e)
    (h : RA F tmp s m t (fun tms s1 m1 => ∃ (a : A) (k : R' → Res R) (mk : List TM), m1 = rb (mir a) k ∧ argOk s1 bs tms mk (ea a) ∧ aliNd mk = true ∧ ∀ r, k r ≠ .fail → (er r).fl = true ∧ (∀ (j : Nat) u, (eo r)[j]? = some (some u) → u.fl = true) ∧ K (.own (er r)) (putOuts s1 mk (eo r)) (k r))) :
    RD F tmp s (tCall (spOf ec ea mir er eo) [] E t) m K := fun σ H Q hh nf eo' q => by
  refine h σ H _ hh nf eo' fun tms s1 vs H1 ⟨a, k, mk, em, ht, nd, hk⟩ hl h1 => ?_
  obtain ⟨G, ω, h1⟩ := h1
  obtain ⟨ht0, hargs⟩ := Tms.args vs tms tmp hl h1.tm
  obtain ⟨hlen, hlenm⟩ := argOk_len ht
  rw [List.append_nil]
  have hnb : ∀ i, i ∈ bs → aIdx i mk = none := fun i hi => by
    cases e : aIdx i mk with
    | none => rfl
    | some j => exact absurd hi (argOk_ali ht j i (aIdx_get e)).2
  have hwc : ∀ x, ((rl ω (psi tmp.length mk)) x).isSome = true → (ω x).isSome = true := fun x hx => by
    obtain ⟨lab, e⟩ := Option.isSome_iff_exists.mp hx
    obtain ⟨p, e1, _⟩ := rl_some e
    rw [e1]; rfl
  have bpsi : ∀ l, bor bs l = true → psi tmp.length mk l = none := fun l hb => by
    match l, hb with
    | 0 :: i :: x, hb =>
      have hi : i ∈ bs := by simpa [bor] using hb
      simp [psi, hnb i hi]
    | [], hb => cases hb
    | [0], hb => cases hb
    | (_ + 1) :: _, hb => cases hb
  have gGc : Same G (borG G H1 ω bs) := fun x o e => by
    unfold borG
    cases e2 : ω x with
    | none => exact e
    | some l => rw [(h1.wg x l e2).1] at e; cases e
  have gcH : Same (borG G H1 ω bs) H1 := fun x o e => by
    unfold borG at e
    cases e2 : ω x with
    | none => rw [e2] at e; exact h1.gH x o e
    | some l =>
      rw [e2] at e
      simp only at e
      split at e
      · exact e
      · exact h1.gH x o e
  have cases := rb_cases (by rw [← em]; exact nf : rb (mir a) k ≠ .fail)
  refine ⟨a, borG G H1 ω bs, rl ω (psi tmp.length mk), gcH, fun x p e => ?_, by rw [hl, hlen], fun j u e => ?_, fun z => ?_, fun r v H' er' po => ?_, fun e od H' ee po => ?_⟩
  · obtain ⟨p', e1, e2⟩ := rl_some e
    refine ⟨?_, (h1.wg x p' e1).2.1⟩
    unfold borG
    rw [e1]
    simp only
    split
    · rename_i hb
      rw [bpsi p' hb] at e2; cases e2
    · exact (h1.wg x p' e1).1
  · have hj : j < mk.length := by rw [hlenm]; exact (List.getElem?_eq_some_iff.mp e).1
    obtain ⟨tm, e3, w⟩ := argOk_get ht j u e
    obtain ⟨v, ev, ok⟩ := hargs j tm e3
    refine ⟨v, ev, ?_⟩
    rcases w with w | ⟨i, w, w2, w3⟩ | ⟨i, d, w, w2, w3, w4⟩
    · subst w
      exact Own.move gGc _ _ u v (fun x y z => ⟨rfl, rl_of z (by simp [psi, hj])⟩) ok
    · subst w
      obtain ⟨v', a1, a2⟩ := h1.sl i u w3
      have ok' : σ[i]? = some (some v) := ok
      rw [ok'] at a1; cases a1
      exact Own.move gGc _ _ u v (fun x y z => ⟨rfl, rl_of z (by simp [psi, aIdx_of nd w2])⟩) a2
    · subst w; subst w4
      have ok' : σ[i]? = some (some v) := ok
      cases e5 : s1[i]? with
      | none => simp [valT, treeAt, e5] at w3
      | some o =>
        cases o with
        | none => simp [valT, treeAt, e5] at w3
        | some tr =>
          simp [valT, treeAt, e5] at w3
          obtain ⟨v', a1, a2⟩ := h1.sl i tr e5
          rw [ok'] at a1; cases a1
          rw [← w3]
          exact Own.rep gGc _ tr v (fun x y z o ho => by
            unfold borG
            rw [z]
            have : bor bs ([0, i] ++ y) = true := by simp [bor, w2]
            simp only [this, if_true]
            exact ho) a2
  · rcases cases with ⟨b, e1, _⟩ | ⟨b, e1, _⟩ <;> (rw [z] at e1; cases e1)
  · have em' : m = k r := by rw [em, er']; rfl
    obtain ⟨fr, fo, hk⟩ := hk r (by rw [← em']; exact nf)
    obtain ⟨G', ω', pa, pw, pr, pouts⟩ := po
    obtain ⟨p1, p2, p3, p4, p5⟩ := pa
    have g1 : Same G (outG G' ω bs) := fun x o e => by
      have := p1 x o (gGc x o e)
      unfold outG
      cases e2 : ω x with
      | none => exact this
      | some l => rw [(h1.wg x l e2).1] at e; cases e
    have outLe : ∀ x o, outG G' ω bs x = some o → G' x = some o ∧ ∀ l, ω x = some l → bor bs l = false := fun x o e => by
      unfold outG at e
      cases e2 : ω x with
      | none => rw [e2] at e; exact ⟨e, fun l z => by cases z⟩
      | some l =>
        rw [e2] at e
        simp only at e
        split at e
        · cases e
        · rename_i hb
          exact ⟨e, fun l' z => by cases z; exact Bool.eq_false_iff.mpr hb⟩
    have p3' : ∀ x o, outG G' ω bs x = some o → G x = some o ∨ H1 x = none ∨ ((rl ω (psi tmp.length mk)) x).isSome = true := fun x o e => by
      obtain ⟨e1, e2⟩ := outLe x o e
      rcases p3 x o e1 with z | z
      · unfold borG at z
        cases e3 : ω x with
        | none => rw [e3] at z; exact .inl z
        | some l =>
          rw [e3] at z
          simp only [e2 l e3, Bool.false_eq_true, if_false] at z
          exact .inl z
      · exact .inr z
    obtain ⟨f1, f2, f3, f4, f5⟩ := wAfter.errP h1 hwc ⟨g1, fun x o e => p2 x o (outLe x o e).1, p3', p4, p5⟩
    have lent : ∀ x lab, ω x = some lab → (psi tmp.length mk lab).isSome = false → ω' x = none := fun x lab e1 e2 => by
      cases e3 : ω' x with
      | none => rfl
      | some l2 =>
        rcases (pw x l2 e3).2.2 with z | z
        · obtain ⟨o, ho⟩ := (h1.wg x lab e1).2.1
          rw [ho] at z; cases z
        · unfold rl at z
          rw [e1] at z
          rw [show ((some lab).bind (psi tmp.length mk)) = psi tmp.length mk lab from rfl, e2] at z
          cases z
    have back : ∀ x l2 l3, ω' x = some l2 → chi tmp.length mk l2 = some l3 → wBack ω ω' tmp.length mk x = some l3 := fun x l2 l3 e1 e2 => by
      unfold wBack
      cases e3 : ω x with
      | none => simp only [e1]; exact e2
      | some lab =>
        cases e4 : (psi tmp.length mk lab).isSome with
        | true => simp only [e4, if_true, e1]; exact e2
        | false =>
          rw [lent x lab e3 e4] at e1
          cases e1
    have kept : ∀ x lab, ω x = some lab → psi tmp.length mk lab = none → H' x = H1 x ∧ wBack ω ω' tmp.length mk x = some lab := fun x lab e1 e2 => by
      obtain ⟨o, ho⟩ := (h1.wg x lab e1).2.1
      refine ⟨?_, ?_⟩
      · rw [ho]
        exact p4 x o ho (by unfold rl; rw [e1]; exact e2)
      · unfold wBack
        rw [e1]
        simp [e2]
    refine q (.own (er r)) (putOuts s1 mk (eo r)) v H' (by rw [em']; exact hk) ⟨outG G' ω bs, wBack ω ω' tmp.length mk, f1, f2, f3, f4, f5, fun x p e => ?_, ?_, fun i u e => ?_, ⟨?_, ?_⟩, h1.pn⟩
    · have outN : G' x = none → outG G' ω bs x = none := fun z => by
        unfold outG
        split
        · split
          · rfl
          · exact z
        · exact z
      unfold wBack at e
      have fromNew : (ω' x).bind (chi tmp.length mk) = some p → outG G' ω bs x = none ∧ (∃ o, H' x = some o) ∧ (F.H0 x = none ∨ (F.w0 x).isSome = true) := fun e => by
        cases e3 : ω' x with
        | none => rw [e3] at e; cases e
        | some l2 =>
          obtain ⟨w1, w2, w3⟩ := pw x l2 e3
          refine ⟨outN w1, w2, ?_⟩
          rcases w3 with z | z
          · exact .inl (h1.new z)
          · obtain ⟨lab, hl2⟩ := Option.isSome_iff_exists.mp (hwc x z)
            exact (h1.wg x lab hl2).2.2
      split at e
      · rename_i lab e1
        split at e
        · exact fromNew e
        · rename_i hn
          have hn' : psi tmp.length mk lab = none := by simpa using hn
          cases e
          obtain ⟨g1', ⟨o, ho⟩, g3⟩ := h1.wg x _ e1
          refine ⟨?_, ⟨o, ?_⟩, g3⟩
          · cases e5 : outG G' ω bs x with
            | none => rfl
            | some o2 =>
              rcases p3' x o2 e5 with z | z | z
              · rw [g1'] at z; cases z
              · rw [ho] at z; cases z
              · unfold rl at z
                rw [e1] at z
                rw [show ((some p).bind (psi tmp.length mk)) = psi tmp.length mk p from rfl, hn'] at z
                cases z
          · rw [(kept x p e1 hn').1]; exact ho
      · exact fromNew e
    · rw [putOuts_len]; exact h1.len
    · cases e1 : aIdx i mk with
      | none =>
        rw [putOuts_none mk s1 _ i e1] at e
        obtain ⟨v', a1, a2⟩ := h1.sl i u e
        exact ⟨v', a1, Own.move g1 _ _ u v' (fun x y w => kept x _ w (by simp [psi, e1])) a2⟩
      | some j =>
        have ej := putOuts_some mk s1 _ i j u nd e1 e
        obtain ⟨w, w1, w2⟩ := pouts j u ej
        obtain ⟨v', a1, a2⟩ := hargs j _ (argOk_ali ht j i (aIdx_get e1)).1
        rw [w1] at a1
        cases a1
        exact ⟨w, a2, Own.flat _ _ u w (fo j u ej) (fun x y z => ⟨rfl, back x _ _ z (by simp [chi, aIdx_get e1])⟩) w2⟩
    · exact Own.flat _ _ _ v fr (fun x y z => ⟨rfl, back x _ _ z (by simp [chi])⟩) pr
    · exact Tms.move g1 tmp (fun j x y hj w => kept x _ w (by
        have : ¬ (tmp.length ≤ j ∧ j < tmp.length + mk.length) := by omega
        simp [psi, this])) ht0
  · have em' : m = .err e := by rw [em, ee]; rfl
    obtain ⟨G', ⟨p1, p2, p3, p4, p5⟩, pe⟩ := po
    have g1 : Same F.G0 G' := fun x o e => p1 x o (gGc x o (h1.g0 x o e))
    rcases hE with hE | hE
    case inr => exact absurd ee (hE a e)
    refine hE _ _ _ ?_
    rw [← hec]
    have h4 : ∀ x o, F.H0 x = some o → F.w0 x = none → H' x = some o := fun x o e w => by
      refine p4 x o (h1.fr x o e w) ?_
      cases q2 : (rl ω (psi tmp.length mk)) x with
      | none => rfl
      | some lab =>
        obtain ⟨lab', hl2⟩ := Option.isSome_iff_exists.mp (hwc x (by rw [q2]; rfl))
        rcases (h1.wg x lab' hl2).2.2 with z | z
        · rw [e] at z; cases z
        · rw [w] at z; cases z
    refine eo' e em' od H' ⟨G', g1, p2, fun x o e => ?_, h4, fun x o e => ?_, ?_⟩
    · rcases p3 x o e with z | z | z
      · unfold borG at z
        cases e3 : ω x with
        | none => rw [e3] at z; exact h1.gn x o z
        | some l =>
          exact .inr (h1.wg x l e3).2.2
      · exact .inr (.inl (h1.new z))
      · obtain ⟨lab, hl2⟩ := Option.isSome_iff_exists.mp (hwc x z)
        exact .inr (h1.wg x lab hl2).2.2
    · obtain ⟨o', e'⟩ := h1.ex x o e
      exact p5 x o' e'
    · cases e6 : e.a with
      | none => rw [e6] at pe; exact pe
      | some d =>
        rw [e6] at pe
        obtain ⟨dx, v, b1, b2, b3, b4⟩ := pe
        exact ⟨dx, v, b1, h1.new b2, b3, b4⟩
end VL

namespace VL
open PySem L2
variable [EC]

/-! owned lists of owned things -/
section
variable {G G' H H' : Hp} {ω ω' : Addr → Option Lab}
theorem Owns.len : ∀ {ts : List T} {vs : List V} {p : Lab} {i : Nat}, Owns G H ω p i ts vs → ts.length = vs.length
  | [], _, _, _, h => by cases (show _ = [] from h); rfl
  | t :: ts, _, _, _, ⟨v, r, e, _, k⟩ => by subst e; simp [Owns.len k]
theorem Owns.get : ∀ {ts : List T} {vs : List V} {p : Lab} {i j : Nat} {t : T}, Owns G H ω p i ts vs → ts[j]? = some t → ∃ v, vs[j]? = some v ∧ Own G H ω (p ++ [i + j]) t v
  | [], _, _, _, _, _, _, e => by simp at e
  | t0 :: ts, _, _, i, 0, t, ⟨v, r, e, h, k⟩, e2 => by subst e; simp at e2; subst e2; exact ⟨v, rfl, h⟩
  | t0 :: ts, _, _, i, j + 1, t, ⟨v, r, e, h, k⟩, e2 => by
    subst e
    obtain ⟨w, a, b⟩ := Owns.get (j := j) k (by simpa using e2)
    exact ⟨w, by simpa using a, by rwa [show i + (j + 1) = i + 1 + j by omega]⟩
theorem Owns.of : ∀ {ts : List T} {vs : List V} {p : Lab} {i : Nat}, ts.length = vs.length → (∀ (j : Nat) t v, ts[j]? = some t → vs[j]? = some v → Own G H ω (p ++ [i + j]) t v) → Owns G H ω p i ts vs
  | [], [], _, _, _, _ => rfl
  | [], _ :: _, _, _, e, _ => by simp at e
  | _ :: _, [], _, _, e, _ => by simp at e
  | t :: ts, v :: vs, p, i, e, h => ⟨v, vs, rfl, h 0 t v rfl rfl, Owns.of (by simpa using e) fun j t' v' a b => by
      have := h (j + 1) t' v' (by simpa using a) (by simpa using b)
      rwa [show i + (j + 1) = i + 1 + j by omega] at this⟩
end
def phiOut (n i j : Nat) : Lab → Option Lab
  | 0 :: a :: b :: x => if a = i ∧ b = j then some (1 :: n :: x) else some (0 :: a :: b :: x)
  | 1 :: a :: x => if a = n then none else some (1 :: a :: x)
  | l => some l
def phiIn (n i j : Nat) : Lab → Option Lab
  | 1 :: a :: x => if a = n then some (0 :: i :: j :: x) else some (1 :: a :: x)
  | 0 :: a :: b :: x => if a = i ∧ b = j then none else some (0 :: a :: b :: x)
  | l => some l
section
variable {F : Fc} {tmp : Tmp} {s : State} {σ : St} {H : Hp} {v : V} {t : T}
theorem Own.rlO {G : Hp} {ω : Addr → Option Lab} {φ : Lab → Option Lab} {p q : Lab} (h : Own G H ω p t v) (e : ∀ x, φ (p ++ x) = some (q ++ x)) : Own G H (VL.rl ω φ) q t v := Own.rl h e
/-- one of an owned list's things is taken out -/
theorem Holds.takeOut (h : Holds F tmp s σ H) {i j : Nat} {ts : List T} (hi : s[i]? = some (some (.ll ts))) (hj : ts[j]? = some t) :
    ∃ a vs v, σ[i]? = some (some (.ref a)) ∧ H a = some (.lst vs) ∧ vs.length = ts.length ∧ vs[j]? = some v ∧ Holds F ((v, .own t) :: tmp) (s.set i (some (.ll (ts.set j (.hole v))))) σ H := by
  obtain ⟨G, ω, h⟩ := h
  obtain ⟨u, e1, a, vs, e2, ha, hw, z, r⟩ := h.sl i _ hi
  subst e2
  obtain ⟨v, e3, e4⟩ := r.get hj
  rw [Nat.zero_add] at e4
  have hil : i < s.length := (List.getElem?_eq_some_iff.mp hi).1
  have hjl : j < ts.length := (List.getElem?_eq_some_iff.mp hj).1
  refine ⟨a, vs, v, e1, ha, r.len.symm, e3, G, _, h.rl (phiOut tmp.length i j) _ σ _ (by simp [h.len]) (fun k u e => ?_) ⟨?_, Tms.rl tmp (fun k x hk => ?_) h.tm⟩ h.pn⟩
  · by_cases hk : i = k
    · subst hk
      rw [List.getElem?_set_self hil] at e
      cases e
      refine ⟨_, e1, a, vs, rfl, ha, rl_of hw rfl, by simpa using z, Owns.of (by simp [r.len]) fun k t' v' a1 a2 => ?_⟩
      rw [List.getElem?_set] at a1
      rw [Nat.zero_add]
      by_cases hk : j = k
      · subst hk
        rw [if_pos rfl, if_pos hjl] at a1
        cases a1
        rw [e3] at a2; cases a2
        exact rfl
      · rw [if_neg hk] at a1
        obtain ⟨w, b1, b2⟩ := r.get a1
        rw [a2] at b1; cases b1
        rw [Nat.zero_add] at b2
        have hk' : ¬ k = j := fun z => hk z.symm
        exact Own.rl b2 fun x => by simp [phiOut, hk']
    · rw [List.getElem?_set_ne hk] at e
      obtain ⟨v', b1, b2⟩ := h.sl k u e
      have hk' : ¬ k = i := fun z => hk z.symm
      refine ⟨v', b1, Own.rl b2 fun x => ?_⟩
      cases x <;> simp [phiOut, hk']
  · exact Own.rl e4 fun x => by simp [phiOut]
  · have : ¬ k = tmp.length := by omega
    simp [phiOut, this]
/-- and put back -/
theorem Holds.putIn (pre : Tmp) (h : Holds F (pre ++ ((v, .own t) :: tmp)) s σ H) {i j : Nat} {ts : List T} (hi : s[i]? = some (some (.ll ts))) (hj : ts[j]? = some (.hole v)) :
    Holds F (pre ++ tmp) (s.set i (some (.ll (ts.set j t)))) σ H := by
  obtain ⟨G, ω, h⟩ := h
  obtain ⟨u, e1, a, vs, e2, ha, hw, z, r⟩ := h.sl i _ hi
  subst e2
  obtain ⟨v', e3, e4⟩ := r.get hj
  cases (show v' = v from e4)
  have hil : i < s.length := (List.getElem?_eq_some_iff.mp hi).1
  have hjl : j < ts.length := (List.getElem?_eq_some_iff.mp hj).1
  have ok : Own G H ω [1, tmp.length] t v := Tms.at (tm := .own t) pre h.tm
  have h0 : Tms G H ω σ tmp := (Tms.tail pre h.tm).2
  refine ⟨G, rl ω (fun l => (phiIn tmp.length i j l).bind (phiMid tmp.length 1)), h.rl _ _ σ _ (by simp [h.len]) (fun k u e => ?_) ?_ h.pn⟩
  · by_cases hk : i = k
    · subst hk
      rw [List.getElem?_set_self hil] at e
      cases e
      refine ⟨_, e1, a, vs, rfl, ha, rl_of hw rfl, by simpa using z, Owns.of (by simp [r.len]) fun k t' v2 a1 a2 => ?_⟩
      rw [List.getElem?_set] at a1
      rw [Nat.zero_add]
      by_cases hk : j = k
      · subst hk
        rw [if_pos rfl, if_pos hjl] at a1
        cases a1
        rw [e3] at a2; cases a2
        exact Own.rl ok fun x => by simp [phiIn, phiMid]
      · rw [if_neg hk] at a1
        obtain ⟨w, b1, b2⟩ := r.get a1
        rw [a2] at b1; cases b1
        rw [Nat.zero_add] at b2
        have hk' : ¬ k = j := fun z => hk z.symm
        exact Own.rl b2 fun x => by simp [phiIn, phiMid, hk']
    · rw [List.getElem?_set_ne hk] at e
      obtain ⟨v', b1, b2⟩ := h.sl k u e
      have hk' : ¬ k = i := fun z => hk z.symm
      refine ⟨v', b1, Own.rl b2 fun x => ?_⟩
      cases x <;> simp [phiIn, phiMid, hk']
  · refine Tms.rlMid (tmp := (v, .own t) :: tmp) (tmp' := tmp) (Tms.rl tmp (fun k x hk => ?_) h0) (by simp) pre (fun k x hk => ?_) h.tm
    · have : ¬ k = tmp.length := by omega
      simp [phiIn, phiMid, this, hk]
    · have h1 : ¬ tmp.length + 1 + k = tmp.length := by omega
      have h2 : ¬ tmp.length + 1 + k < tmp.length := by omega
      have h3 : ¬ tmp.length + 1 + k < tmp.length + 1 := by omega
      have h4 : tmp.length + 1 + k - 1 = tmp.length + k := by omega
      simp [phiIn, phiMid, h1, h2, h3, h4]
end
def ixNd (n : Nat) : D → Option Nat | .int i => ixN n i | _ => none
theorem ixNd_ok {n j : Nat} {d : D} {x : V} {G : Hp} (h : ixNd n d = some j) (r : Rep G d x) : j < n ∧ ∃ i, x = .int i ∧ ixN n i = some j := by
  cases d <;> try (cases h; done)
  rename_i i
  exact ⟨(ixN_seq h).2.1, i, r, h⟩
section
variable {R : Type} {F : Fc} {tmp : Tmp} {s : State} {m : Res R} {K : Rs R} {N : Rn R} {Rt : Rr R} {ta tb te to ti : TE} {Kf : PySem.W.Frag}
theorem rd_take {i : Nat} {ls0 : List (List D)} {Q : VK} {σ : St} {H : Hp} (hs : s[i]? = some (some (.ll (ls0.map T.l)))) (hh : Holds F tmp s σ H) (nf : m ≠ .fail) (eo : EOk F m)
    (h : ∀ x, RD F ((x, .ali i) :: tmp) s ti m (fun tm1 s1 m1 => ∃ (d : D) (ls : List (List D)) (k : Nat → Res R), valS s1 tm1 = some d ∧ s1[i]? = some (some (.ll (ls.map T.l))) ∧ m1 = ob (ixNd ls.length d) k ∧
      ∀ j, ls[j]? = some (ls.getD j []) → ∀ v H1, m = k j → Holds F ((v, .own (.l (ls.getD j []))) :: tmp) (s1.set i (some (.ll ((ls.map T.l).set j (.hole v))))) σ H1 → Q v H1)) : tOp (rIxA Kf) (tVar i) ti σ H Q := by
  obtain ⟨x, ex⟩ : ∃ x, σ[i]? = some (some x) := by
    obtain ⟨G, ω, h1⟩ := hh
    obtain ⟨v, e, _⟩ := h1.sl i _ hs
    exact ⟨v, e⟩
  refine ⟨x, ex, h x σ H _ (by obtain ⟨G, ω, h1⟩ := hh; exact ⟨G, ω, { h1 with tm := ⟨ex, h1.tm⟩ }⟩) nf eo fun tm1 s1 y H1 ⟨d, ls, k, ed, hi, em, hk⟩ h1 => ?_⟩
  obtain ⟨j, ej, em'⟩ := ob_cases (by rw [← em]; exact nf)
  have ey : j < ls.length ∧ ∃ z, y = .int z ∧ ixN ls.length z = some j := by
    obtain ⟨G, ω, h2⟩ := h1
    have r := (h2.repC h2.tm.1 ed).toR h2.gH
    exact ixNd_ok ej r
  obtain ⟨jl, z, rfl, hz⟩ := ey
  have hj : ls[j]? = some (ls.getD j []) := by rw [List.getD_eq_getElem?_getD, List.getElem?_eq_getElem jl]; rfl
  have h3 := h1.pop.pop
  obtain ⟨a, vs, v, e1, ha, hl, hv, h4⟩ := h3.takeOut hi (t := .l (ls.getD j [])) (j := j) (by rw [List.getElem?_map, hj]; rfl)
  rw [ex] at e1; cases e1
  refine .inl ⟨a, vs, z, v, rfl, rfl, .inl (.inl ha), ?_, hk j hj v H1 (by rw [em, em']) h4⟩
  unfold atI
  rw [hl, List.length_map, hz]
  exact hv
/-- x[i].append(e) -/
theorem rd_append2 {i : Nat} {ls0 : List (List D)} (hs : s[i]? = some (some (.ll (ls0.map T.l))))
    (h : ∀ x, RD F ((x, .ali i) :: tmp) s ti m (fun tm1 s1 m1 => ∃ (d : D) (ls : List (List D)) (k : Nat → Res R), valS s1 tm1 = some d ∧ s1[i]? = some (some (.ll (ls.map T.l))) ∧ m1 = ob (ixNd ls.length d) k ∧
      ∀ j v, RD F ((v, .own (.l (ls.getD j []))) :: tmp) (s1.set i (some (.ll ((ls.map T.l).set j (.hole v))))) te (k j) (fun tm2 s2 m2 => ∃ d2 k2, tm2 = .own (.f d2) ∧ s2[i]? = some (some (.ll ((ls.map T.l).set j (.hole v)))) ∧
        m2 = ob (apL (ls.getD j []) d2) k2 ∧ ∀ l', K (.own (.f .non)) (s2.set i (some (.ll ((ls.set j l').map T.l)))) (k2 l')))) :
    RD F tmp s (tBM Kf "list" rAppend (tOp (rIxA Kf) (tVar i) ti) (tCons te tNil)) m K := fun σ H Q hh nf eo q => by
  refine rd_take hs hh nf eo fun x => fun σ' H' Q' hh' nf' eo' q' => h x σ' H' Q' hh' nf' eo' fun tm1 s1 y H1 ⟨d, ls, k, ed, hi, em, hk⟩ h1 => q' tm1 s1 y H1 ⟨d, ls, k, ed, hi, em, fun j hj v H2 em2 h2 => ?_⟩ h1
  have ht : tyV Kf "list" v H2 := by
    obtain ⟨G, ω, h3⟩ := h2
    obtain ⟨a, vs, e, ha, _⟩ := h3.tm.1
    subst e
    exact .inl ⟨rfl, vs, .inl (.inl ha)⟩
  refine ⟨ht, ?_⟩
  have hkj := hk j v
  rw [← em2] at hkj
  refine hkj σ H2 _ h2 nf eo fun tm2 s2 w H3 ⟨d2, k2, e2, hi2, em3, hk2⟩ h3 => ?_
  subst e2
  obtain ⟨l', el, em4⟩ := ob_cases (by rw [← em3]; exact nf)
  unfold apL at el
  split at el
  · cases el
    rename_i hlt
    obtain ⟨a, vs, e, ha, hw⟩ : ∃ a vs, v = .ref a ∧ H3 a = some (.lst vs) ∧ vs.length = (ls.getD j []).length := by
      obtain ⟨G, ω, h5⟩ := h3
      obtain ⟨a, vs, e, ha, hw, z, r⟩ := h5.tm.2.1
      exact ⟨a, vs, e, ha, r.length.symm⟩
    subst e
    obtain ⟨vs', e5, e6, h6⟩ := h3.wrTmp (by rw [sizeLine_eq]; exact hlt)
    rw [ha] at e5; cases e5
    refine ⟨a, vs, w, rfl, rfl, ha, by rw [hw, sizeLine_eq]; exact hlt, ?_⟩
    have hjl : j < ls.length := by
      cases e9 : decide (j < ls.length) with
      | true => exact of_decide_eq_true e9
      | false =>
        rw [List.getElem?_eq_none (by have := of_decide_eq_false e9; omega)] at hj
        cases hj
    have h7 := Holds.putIn [] (j := j) h6 hi2 (by rw [List.getElem?_set_self (by simpa using hjl)])
    rw [List.set_set] at h7
    have h8 : (ls.map T.l).set j (.l (ls.getD j [] ++ [d2])) = (ls.set j (ls.getD j [] ++ [d2])).map T.l := by rw [List.map_set]
    rw [h8] at h7
    exact q _ _ .non _ (by rw [em3, em4]; exact hk2 _) (holds_push (d := .non) h7 fun _ => rfl)
  · cases el
/-- for .. in x[i] -/
theorem ri_el {i : Nat} {ls0 : List (List D)} {K : Ki R} (hs : s[i]? = some (some (.ll (ls0.map T.l))))
    (h : ∀ x, RD F ((x, .ali i) :: tmp) s ti m (fun tm1 s1 m1 => ∃ (d : D) (ls : List (List D)) (k : Nat → Res R), valS s1 tm1 = some d ∧ s1[i]? = some (some (.ll (ls.map T.l))) ∧ m1 = ob (ixNd ls.length d) k ∧
      ∀ j v, K [(v, .own (.l (ls.getD j [])))] (fun s => s[i]? = some (some (.ll ((ls.map T.l).set j (.hole v))))) (fun s => s.set i (some (.ll (ls.map T.l)))) (ls.getD j []) (s1.set i (some (.ll ((ls.map T.l).set j (.hole v))))) (k j))) :
    RI F tmp s m (iList Kf (tOp (rIxA Kf) (tVar i) ti)) K := fun σ H Q hh nf eo q => by
  refine rd_take hs hh nf eo fun x => fun σ' H' Q' hh' nf' eo' q' => h x σ' H' Q' hh' nf' eo' fun tm1 s1 y H1 ⟨d, ls, k, ed, hi, em, hk⟩ h1 => q' tm1 s1 y H1 ⟨d, ls, k, ed, hi, em, fun j hj v H2 em2 h2 => ?_⟩ h1
  have hjl : j < ls.length := (List.getElem?_eq_some_iff.mp hj).1
  have at_ : ∀ (pre : Tmp) s σ H, Holds F (pre ++ ([(v, .own (.l (ls.getD j [])))] ++ tmp)) s σ H → ∃ a vs G ω, v = .ref a ∧ H a = some (.lst vs) ∧ Hd F G ω (pre ++ ([(v, .own (.l (ls.getD j [])))] ++ tmp)) s σ H ∧ Reps G (ls.getD j []) vs ∧ (ls.getD j []).length ≤ sizeLine := fun pre s σ H ⟨G, ω, h⟩ => by
    obtain ⟨a, vs, e, ha, hw, z, r⟩ := Tms.at (tm := .own (.l (ls.getD j []))) (tmp := tmp) pre h.tm
    exact ⟨a, vs, G, ω, e, ha, h, r, z⟩
  obtain ⟨a, vs, G, ω, e1, g, h3, r, z⟩ := at_ [] _ σ H2 h2
  have hkj := hk j v
  rw [← em2] at hkj
  refine ⟨a, e1, ⟨vs, .inl (.inl g)⟩, q _ _ _ _ _ (Itl Kf a) H2 hkj ⟨fun pre s σ H hp h => ?_, z, fun s σ H i hp hh hi => ?_, fun s σ H hp hh => ?_, fun pre s σ H i d y H' hp hh hd hy => ?_⟩ h2⟩
  · have hp' : s[i]? = some (some (.ll ((ls.map T.l).set j (.hole v)))) := hp
    have := Holds.putIn pre (j := j) h hp' (by rw [List.getElem?_set_self (by simpa using hjl)])
    rw [List.set_set] at this
    have e8 : (ls.map T.l).set j (.l (ls.getD j [])) = ls.map T.l := by
      refine List.ext_getElem? fun k => ?_
      rw [List.getElem?_set]
      by_cases hk : j = k
      · subst hk
        rw [if_pos rfl, if_pos (by simpa using hjl), List.getElem?_map, hj]; rfl
      · rw [if_neg hk]
    rw [e8] at this
    exact this
  · obtain ⟨a', vs', G', ω', e2, g2, _, r2, _⟩ := at_ [] s σ H hh
    rw [e1] at e2; cases e2
    have hl : i < vs'.length := by rw [← r2.length]; exact hi
    exact ⟨vs', vs'[i], .inl (.inl g2), by simp [hl]⟩
  · obtain ⟨a', vs', G', ω', e2, g2, _, r2, _⟩ := at_ [] s σ H hh
    rw [e1] at e2; cases e2
    exact ⟨vs', .inl (.inl g2), by rw [r2.length]; exact Nat.le_refl _⟩
  · obtain ⟨a', vs', G', ω', e2, g2, h3, r2, _⟩ := at_ pre s σ H hh
    rw [e1] at e2; cases e2
    obtain ⟨rfl, hy⟩ := hy
    have hy := hy vs' (.inl (.inl g2))
    obtain ⟨w, w1, w2⟩ := r2.get hd
    rw [hy] at w1; cases w1
    exact ⟨G', ω', h3.pushF w2⟩
/-- len of an owned list of owned things -/
theorem rd_len_ll {i : Nat} {ts : List T} (hs : s[i]? = some (some (.ll ts))) (k : K (.own (.f (.int ts.length))) s m) : RD F tmp s (tCB (rLen Kf) (tCons (tVar i) tNil)) m K := fun σ H Q hh nf eo q => by
  have h2 := hh
  obtain ⟨G, ω, h⟩ := hh
  obtain ⟨v, e, a, vs, e2, ha, hw, z, r⟩ := h.sl i _ hs
  subst e2
  exact ⟨_, e, _, _, rfl, .inl ⟨vs, .inl (.inl ha), r.len⟩, q _ _ _ H k (holds_push (d := .int _) h2 fun _ => rfl)⟩
def phiDisp (n : Nat) : Lab → Option Lab
  | 1 :: j :: x => if j < n then some (1 :: j :: x) else some (1 :: n :: (j - n) :: x)
  | l => some l
/-- a display of owned things -/
theorem rd_lstO {t : TA} (h : RA F tmp s m t (fun tms s1 m1 => ∃ ts : List T, tms = ts.map TM.own ∧ ts.length ≤ 1000 ∧ K (.own (.ll ts)) s1 m1)) : RD F tmp s (tLst t) m K := fun σ H Q hh nf eo q =>
  h σ H _ hh nf eo fun tms s1 vs H1 ⟨ts, et, hz, hk⟩ hl h1 => by
    obtain ⟨G, ω, h2⟩ := h1
    obtain ⟨t0, args⟩ := Tms.args vs tms tmp hl h2.tm
    subst et
    have hlen : ts.length = vs.length := by rw [hl]; simp
    have z : ts.length ≤ sizeLine := by rw [sizeLine_eq]; omega
    refine ⟨by rw [← hlen]; exact z, fun p hp => ?_⟩
    have h3 : Hd F G (rl ω (phiDisp tmp.length)) tmp s1 σ H1 := h2.rl _ s1 σ tmp h2.len (fun i u e => by
      obtain ⟨v', e1, e2⟩ := h2.sl i u e
      exact ⟨v', e1, Own.rl e2 fun x => by simp [phiDisp]⟩) (Tms.rl tmp (fun j x hj => by simp [phiDisp, hj]) t0) h2.pn
    refine q _ s1 _ _ hk ⟨G, _, h3.newO hp ⟨p, vs, rfl, upd_same, by simp, z, Owns.of hlen fun j t v a b => ?_⟩⟩
    obtain ⟨w, w1, w2⟩ := args j (.own t) (by rw [List.getElem?_map, a]; rfl)
    rw [b] at w1; cases w1
    rw [Nat.zero_add]
    have hgt : ∀ x, phiDisp tmp.length ([1, tmp.length + j] ++ x) = some (([1, tmp.length] ++ [j]) ++ x) := fun x => by
      have h1 : ¬ tmp.length + j < tmp.length := by omega
      have h2 : tmp.length + j - tmp.length = j := by omega
      simp [phiDisp, h2]
    refine Own.move (Same.refl _) _ _ t v (fun a x e => ?_) w2
    obtain ⟨_, ⟨o, ho⟩, _⟩ := h2.wg a _ e
    have ne := ne_of_none ho hp
    exact ⟨upd_ne ne, by rw [if_neg ne]; exact rl_of e (hgt x)⟩
/-- x.append(owned) -/
theorem rd_appendO {i : Nat} {te : TE} (hs : ∃ ts, s[i]? = some (some (.ll ts))) (h : ∀ x, RD F ((x, .ali i) :: tmp) s te m (fun tm2 s2 m2 => ∃ t ts k, tm2 = .own t ∧ s2[i]? = some (some (.ll ts)) ∧ m2 = (if ts.length < 16777216 then k else .fail) ∧ K (.own (.f .non)) (s2.set i (some (.ll (ts ++ [t])))) k)) :
    RD F tmp s (tBM Kf "list" rAppend (tVar i) (tCons te tNil)) m K := fun σ H Q hh nf eo q => by
  obtain ⟨ts0, hs⟩ := hs
  have hx : ∃ a vs, σ[i]? = some (some (.ref a)) ∧ H a = some (.lst vs) := by
    obtain ⟨G, ω, h1⟩ := hh
    obtain ⟨v, e, a, vs, e2, ha, _⟩ := h1.sl i _ hs
    subst e2
    exact ⟨a, vs, e, ha⟩
  obtain ⟨a, vs, ex, ha⟩ := hx
  refine ⟨.ref a, ex, .inl ⟨rfl, vs, .inl (.inl ha)⟩, h (.ref a) σ H _ (by obtain ⟨G, ω, h1⟩ := hh; exact ⟨G, ω, { h1 with tm := ⟨ex, h1.tm⟩ }⟩) nf eo fun tm2 s2 y H2 ⟨t, ts, k, e2, hi, em, hk⟩ h3 => ?_⟩
  subst e2
  have hlt : ts.length < 16777216 := by
    refine Decidable.byContradiction fun z => ?_
    rw [if_neg z] at em
    exact nf em
  rw [if_pos hlt] at em
  have h4 : Holds F ((y, .own t) :: tmp) s2 σ H2 := Holds.dropMid (ex := [(.ref a, .ali i)]) [(y, .own t)] h3
  obtain ⟨G, ω, h4⟩ := h4
  obtain ⟨v, e1, a', vs', e2, ha', hw, z, r⟩ := h4.sl i _ hi
  subst e2
  rw [ex] at e1; cases e1
  have hil : i < s2.length := (List.getElem?_eq_some_iff.mp hi).1
  refine ⟨a, vs', y, rfl, rfl, ha', by rw [← r.len, sizeLine_eq]; exact hlt, ?_⟩
  have h5 : Hd F G (rl ω (phiIn tmp.length i ts.length)) tmp (s2.set i none) σ H2 := h4.rl _ _ σ tmp (by simp [h4.len]) (fun k u e => by
    by_cases hk : i = k
    · subst hk; rw [List.getElem?_set_self hil] at e; cases e
    · rw [List.getElem?_set_ne hk] at e
      obtain ⟨v', b1, b2⟩ := h4.sl k u e
      have hk' : ¬ k = i := fun z => hk z.symm
      refine ⟨v', b1, Own.rl b2 fun x => ?_⟩
      cases x <;> simp [phiIn, hk']) (Tms.rl tmp (fun j x hj => by
      have : ¬ j = tmp.length := by omega
      simp [phiIn, this]) h4.tm.2) h4.pn
  have hw5 : (rl ω (phiIn tmp.length i ts.length)) a = some [0, i] := rl_of hw rfl
  have r5 : ∀ (j : Nat) t' v', (ts ++ [t])[j]? = some t' → (vs' ++ [y])[j]? = some v' → Own G (upd H2 a (.lst (vs' ++ [y]))) (rl ω (phiIn tmp.length i ts.length)) ([0, i] ++ [0 + j]) t' v' := fun j t' v' a1 a2 => by
    rw [Nat.zero_add]
    have hwr : ∀ {q : Lab} {t v}, pre q [0, i] = false → Own G H2 (rl ω (phiIn tmp.length i ts.length)) q t v → Own G (upd H2 a (.lst (vs' ++ [y]))) (rl ω (phiIn tmp.length i ts.length)) q t v := fun n o => Own.wrO hw5 n o
    refine hwr (by simp [pre]) ?_
    by_cases hj : j < ts.length
    · rw [List.getElem?_append_left hj] at a1
      rw [List.getElem?_append_left (by rw [← r.len]; exact hj)] at a2
      obtain ⟨w, b1, b2⟩ := r.get a1
      rw [a2] at b1; cases b1
      rw [Nat.zero_add] at b2
      have hj' : ¬ j = ts.length := by omega
      exact Own.rl b2 fun x => by simp [phiIn, hj']
    · rw [List.getElem?_append_right (by omega)] at a1
      rw [List.getElem?_append_right (by rw [← r.len]; omega)] at a2
      have hj2 : j = ts.length := by
        have := (List.getElem?_eq_some_iff.mp a1).1
        simp at this
        omega
      subst hj2
      simp at a1
      rw [← r.len] at a2
      simp at a2
      subst a1; subst a2
      exact Own.rl h4.tm.1 fun x => by simp [phiIn]
  have h6 : Hd F G (rl ω (phiIn tmp.length i ts.length)) tmp (s2.set i (some (.ll (ts ++ [t])))) σ (upd H2 a (.lst (vs' ++ [y]))) := h5.wr hw5 _ (by simp) (fun k u e => by
    by_cases hk : i = k
    · subst hk
      rw [List.getElem?_set_self hil] at e
      cases e
      exact ⟨_, ex, a, vs' ++ [y], rfl, upd_same, hw5, by rw [sizeLine_eq]; simp; omega, Owns.of (by simp [r.len]) r5⟩
    · rw [List.getElem?_set_ne hk] at e
      obtain ⟨v', b1, b2⟩ := h5.sl k u (by rw [List.getElem?_set_ne hk]; exact e)
      exact ⟨v', b1, Own.wrO hw5 (by simp [pre]; exact fun z => hk z.symm) b2⟩) (Tms.wrO hw5 tmp (fun j hj => by simp [pre]) h5.tm)
  exact q _ _ .non _ (by rw [em]; exact hk) (holds_push (d := .non) ⟨G, _, h6⟩ fun _ => rfl)
end
end VL

namespace VL
open PySem L2
variable [EC]

/-! what the printed walks use besides -/
def asLst : D → Option (List D) | .lst l => some l | _ => none
def asStr : D → Option (List Nat) | .str x => some x | _ => none
def asDc : D → Option (Bool × List (D × D)) | .dct k l => some (k, l) | _ => none
def un2 : D → Option (D × D) | .tup [a, b] => some (a, b) | _ => none
def un3 : D → Option (D × D × D) | .tup [a, b, c] => some (a, b, c) | _ => none
def un4 : D → Option (D × D × D × D) | .tup [a, b, c, d] => some (a, b, c, d) | _ => none
theorem asLst_eq {d : D} {l : List D} (h : asLst d = some l) : d = .lst l := by cases d <;> first | (cases h; rfl) | cases h
theorem asStr_eq {d : D} {l : List Nat} (h : asStr d = some l) : d = .str l := by cases d <;> first | (cases h; rfl) | cases h
theorem asDc_eq {d : D} {p : Bool × List (D × D)} (h : asDc d = some p) : d = .dct p.1 p.2 := by cases d <;> first | (cases h; rfl) | cases h
theorem un2_eq {d : D} {p : D × D} (h : un2 d = some p) : d = .tup [p.1, p.2] := by
  unfold un2 at h; split at h <;> cases h; rfl
theorem un3_eq {d : D} {p : D × D × D} (h : un3 d = some p) : d = .tup [p.1, p.2.1, p.2.2] := by
  unfold un3 at h; split at h <;> cases h; rfl
theorem un4_eq {d : D} {p : D × D × D × D} (h : un4 d = some p) : d = .tup [p.1, p.2.1, p.2.2.1, p.2.2.2] := by
  unfold un4 at h; split at h <;> cases h; rfl
section
variable {R : Type} {F : Fc} {tmp : Tmp} {s : State} {m : Res R} {K : Rs R} {N : Rn R} {Rt : Rr R} {ta tb te to ti td ty : TE} {Kf : PySem.W.Frag}
theorem rs_join {Z : Type} {t : TS} (S : Z → State) (ma : Res Z) (k : Z → Res R) (e : m = rb ma k) (h : RS F tmp s ma t (fun s' m' => ∃ z, m' = .ok z ∧ Sub s' (S z)) (fun _ _ _ => False)) (hn : ∀ z, N (S z) (k z)) : RS F tmp s m t N Rt := fun σ H D hh nf eo nx rt => by
  subst e
  have nf' : ma ≠ .fail := fun z => nf (by rw [z]; rfl)
  refine h σ H D hh nf' (eo.of fun e he => by rw [he]; rfl) (fun s' σ' H' ⟨z, ez, sb⟩ h1 => ?_) fun t s' v σ' H' hk h1 => hk.elim
  refine nx (S z) σ' H' ?_ (h1.sub sb)
  rw [ez]; exact hn z
theorem rs_joinF {Z R' : Type} {t : TS} (S : Z → State) (ma : Res (Fl Z R')) (k : Fl Z R' → Res R) (e : m = rb ma k) (h : RS F tmp s ma t (fun s' m' => ∃ z, m' = .ok (.nx z) ∧ Sub s' (S z)) (fun t s' m' => ∃ r, m' = .ok (.rt r) ∧ Rt t s' (k (.rt r)))) (hn : ∀ z, N (S z) (k (.nx z))) : RS F tmp s m t N Rt := fun σ H D hh nf eo nx rt => by
  subst e
  have nf' : ma ≠ .fail := fun z => nf (by rw [z]; rfl)
  refine h σ H D hh nf' (eo.of fun e he => by rw [he]; rfl) (fun s' σ' H' ⟨z, ez, sb⟩ h1 => ?_) fun t s' v σ' H' ⟨r, er, hk⟩ h1 => ?_
  · refine nx (S z) σ' H' ?_ (h1.sub sb)
    rw [ez]; exact hn z
  · refine rt t s' v σ' H' ?_ h1
    rw [er]; exact hk
theorem rs_asgG {te : TE} {g : TG} (is : List Nat) (h : RD F tmp s te m (fun tm s1 m1 => ∃ d, tm = .own (.f d) ∧ RG F tmp s1 m1 is g d N)) : RS F tmp s m (tAsg te g) N Rt := fun σ H De hh nf eo nx rt =>
  h σ H _ hh nf eo fun tm s1 v H1 ⟨d, e, hg⟩ h1 => by
    subst e
    exact hg σ H1 v _ h1 nf eo fun s' σ' H' hk h2 _ _ => nx s' σ' H' hk h2
theorem rg_un2 {g1 g2 : TG} {is1 is2 : List Nat} {d : D} {K : State → Res R → Prop} (h : ∃ k, m = ob (un2 d) k ∧ ∀ a b, ∀ y, RG F ((y, .own (.f b)) :: tmp) s (k (a, b)) is1 g1 a (fun s1 m1 => RG F tmp s1 m1 is2 g2 b K)) : RG F tmp s m (is1 ++ is2) (gTup Kf 2 (gCons g1 (gCons g2 gNil))) d K := fun σ H v Q hh nf eo q => by
  obtain ⟨k, em, h⟩ := h
  obtain ⟨p, ep, em'⟩ := ob_cases (by rw [← em]; exact nf)
  have e := un2_eq ep
  exact rg_tup2 ⟨p.1, p.2, e, fun y => by have := h p.1 p.2 y; rw [em, em']; exact this⟩ σ H v Q hh nf eo q
theorem rg_many {gs : TGs} {n : Nat} {d : D} {is : List Nat} {K : State → Res R → Prop} {ds : List D} (e : d = .tup ds) (hn : ds.length = n)
    (h : ∀ xs, xs.length = n → ∀ σ H Q, Holds F (xs.zip (ds.map fun d => TM.own (.f d)) ++ tmp) s σ H → m ≠ .fail → EOk F m → (∀ s' σ' H', K s' m → Holds F tmp s' σ' H' → (∀ j, j ∉ is → σ'[j]? = σ[j]?) → σ'.length = σ.length → Q σ' H') → gs xs σ H Q) : RG F tmp s m is (gTup Kf n gs) d K := fun σ H v Q hh nf eo q => by
  subst e
  obtain ⟨G, ω, h0⟩ := hh
  obtain ⟨p, vs, e1, g, z, r⟩ := h0.tm.1
  refine ⟨p, vs, e1, .inl (.inl (h0.gH _ _ g)), by rw [← r.length]; exact hn, h vs (by rw [← r.length]; exact hn) σ H Q ⟨G, ω, ?_⟩ nf eo q⟩
  have hp := h0.pop
  have key : ∀ (ds : List D) (vs : List V), Reps G ds vs → Hd F G ω (vs.zip (ds.map fun d => TM.own (.f d)) ++ tmp) s σ H := by
    intro ds
    induction ds with
    | nil => intro vs h; cases (show vs = [] from h); exact hp
    | cons d r ih =>
      intro vs ⟨v, q, e, h, k⟩
      subst e
      exact (ih q k).pushF h
  exact key ds vs r
/-- the targets of an unpacking, one after another -/
def RGs (F : Fc) (tmp : Tmp) (s : State) (m : Res R) (is : List Nat) (gs : TGs) (ds : List D) (K : State → Res R → Prop) : Prop :=
  ∀ xs, xs.length = ds.length → ∀ σ H Q, Holds F (xs.zip (ds.map fun d => TM.own (.f d)) ++ tmp) s σ H → m ≠ .fail → EOk F m → (∀ s' σ' H', K s' m → Holds F tmp s' σ' H' → (∀ j, j ∉ is → σ'[j]? = σ[j]?) → σ'.length = σ.length → Q σ' H') → gs xs σ H Q
theorem rgs_nil {K : State → Res R → Prop} (k : K s m) : RGs F tmp s m [] gNil [] K := fun xs hl σ H Q hh nf eo q => by
  cases xs with
  | nil => exact ⟨rfl, q s σ H k hh (fun _ _ => rfl) rfl⟩
  | cons _ _ => simp at hl
theorem rgs_cons {i : Nat} {is : List Nat} {gs : TGs} {d : D} {ds : List D} {K : State → Res R → Prop} (hi : i < s.length) (na : noAli i tmp = true) (hp : F.pv i = none)
    (h : RGs F tmp (s.set i (some (.f d))) m is gs ds K) : RGs F tmp s m (i :: is) (gCons (gName i) gs) (d :: ds) K := fun xs hl σ H Q hh nf eo q => by
  cases xs with
  | nil => simp at hl
  | cons x r =>
    refine ⟨x, r, rfl, ?_⟩
    have na2 : ∀ (xs : List V) (ds : List D), noAli i (xs.zip (ds.map fun d => TM.own (.f d)) ++ tmp) = true := by
      intro xs
      induction xs with
      | nil => intro ds; exact na
      | cons y q ih =>
        intro ds
        cases ds with
        | nil => exact na
        | cons d' r' => exact ih r'
    have h1 : Holds F ((x, .own (.f d)) :: (r.zip (ds.map fun d => TM.own (.f d)) ++ tmp)) s σ H := hh
    have h2 := h1.store hi (na2 r ds) hp
    refine h r (by simpa using hl) (σ.set i (some x)) H Q h2 nf eo fun s' σ' H' hk h3 hj hl2 => q s' σ' H' hk h3 (fun j hj2 => ?_) (by rw [hl2]; simp)
    have h4 : j ∉ is := fun z => hj2 (List.mem_cons_of_mem _ z)
    have h5 : i ≠ j := fun z => hj2 (by rw [z]; exact List.mem_cons_self)
    rw [hj j h4, List.getElem?_set_ne h5]
theorem rg_un {gs : TGs} {n : Nat} {d : D} {is : List Nat} {K : State → Res R → Prop} {ds : List D} (e : d = .tup ds) (hn : ds.length = n) (h : RGs F tmp s m is gs ds K) : RG F tmp s m is (gTup Kf n gs) d K :=
  rg_many e hn fun xs hx => h xs (hx.trans hn.symm)
theorem rg_n2 {gs : TGs} {d : D} {is : List Nat} {K : State → Res R → Prop} (h : ∃ k, m = ob (un2 d) k ∧ ∀ p : D × D, RGs F tmp s (k p) is gs [p.1, p.2] K) : RG F tmp s m is (gTup Kf 2 gs) d K := fun σ H v Q hh nf eo q => by
  obtain ⟨k, em, h⟩ := h
  obtain ⟨p, ep, em'⟩ := ob_cases (by rw [← em]; exact nf)
  exact rg_un (un2_eq ep) rfl (by have := h p; rw [em, em']; exact this) σ H v Q hh nf eo q
theorem rg_n3 {gs : TGs} {d : D} {is : List Nat} {K : State → Res R → Prop} (h : ∃ k, m = ob (un3 d) k ∧ ∀ p : D × D × D, RGs F tmp s (k p) is gs [p.1, p.2.1, p.2.2] K) : RG F tmp s m is (gTup Kf 3 gs) d K := fun σ H v Q hh nf eo q => by
  obtain ⟨k, em, h⟩ := h
  obtain ⟨p, ep, em'⟩ := ob_cases (by rw [← em]; exact nf)
  exact rg_un (un3_eq ep) rfl (by have := h p; rw [em, em']; exact this) σ H v Q hh nf eo q
theorem rg_n4 {gs : TGs} {d : D} {is : List Nat} {K : State → Res R → Prop} (h : ∃ k, m = ob (un4 d) k ∧ ∀ p : D × D × D × D, RGs F tmp s (k p) is gs [p.1, p.2.1, p.2.2.1, p.2.2.2] K) : RG F tmp s m is (gTup Kf 4 gs) d K := fun σ H v Q hh nf eo q => by
  obtain ⟨k, em, h⟩ := h
  obtain ⟨p, ep, em'⟩ := ob_cases (by rw [← em]; exact nf)
  exact rg_un (un4_eq ep) rfl (by have := h p; rw [em, em']; exact this) σ H v Q hh nf eo q
/-- a list of a value that was not known to be one -/
theorem ri_lst {K : Ki R} (h : RD F tmp s ta m (fun tm s1 m1 => ∃ d k, valS s1 tm = some d ∧ m1 = ob (asLst d) k ∧ ∀ ds v, K [(v, tm)] (fun s => valS s tm = valS s1 tm) id ds s1 (k ds))) : RI F tmp s m (iList Kf ta) K := fun σ H Q hh nf eo q => by
  refine ri_list (fun σ H Q' hh' nf' eo' q' => h σ H Q' hh' nf' eo' fun tm s1 v H1 ⟨d, k, ea, em, hk⟩ h1 => q' tm s1 v H1 ?_ h1) σ H Q hh nf eo q
  obtain ⟨ds, ed, em'⟩ := ob_cases (by rw [← em]; exact nf)
  rw [asLst_eq ed] at ea
  exact ⟨ds, ea, fun v => by have := hk ds v; rw [em, em']; exact this⟩
theorem ri_enumL {K : Ki R} (h : RD F tmp s ta m (fun tm s1 m1 => ∃ d k, valS s1 tm = some d ∧ m1 = ob (asLst d) k ∧ ∀ ds v, K [(v, tm)] (fun s => valS s tm = valS s1 tm) id (enumD 0 ds) s1 (k ds))) : RI F tmp s m (iEnum Kf (tCons ta tNil)) K := fun σ H Q hh nf eo q => by
  refine ri_enum (fun σ H Q' hh' nf' eo' q' => h σ H Q' hh' nf' eo' fun tm s1 v H1 ⟨d, k, ea, em, hk⟩ h1 => q' tm s1 v H1 ?_ h1) σ H Q hh nf eo q
  obtain ⟨ds, ed, em'⟩ := ob_cases (by rw [← em]; exact nf)
  rw [asLst_eq ed] at ea
  exact ⟨ds, ea, fun v => by have := hk ds v; rw [em, em']; exact this⟩
theorem ri_zipL {K : Ki R} (h : RD F tmp s ta m (fun tm1 s1 m1 => ∀ x, RD F ((x, tm1) :: tmp) s1 tb m1 (fun tm2 s2 m2 => ∃ (a b : D) (k : List D → List D → Res R), valS s2 tm1 = some a ∧ valS s2 tm2 = some b ∧ m2 = ob (asLst a) (fun da => ob (asLst b) (fun db => k da db)) ∧ ∀ da db y, K [(y, tm2), (x, tm1)] (fun s => valS s tm1 = valS s2 tm1 ∧ valS s tm2 = valS s2 tm2) id (zipD da db) s2 (k da db)))) : RI F tmp s m (iZip Kf (tCons ta (tCons tb tNil))) K := fun σ H Q hh nf eo q => by
  refine ri_zip (fun σ H Q' hh' nf' eo' q' => h σ H Q' hh' nf' eo' fun tm1 s1 v H1 h2 h1 => q' tm1 s1 v H1 (fun x σ2 H2 Q2 hh2 nf2 eo2 q2 => h2 x σ2 H2 Q2 hh2 nf2 eo2 fun tm2 s2 w H3 ⟨a, b, k, ea, eb, em, hk⟩ h3 => q2 tm2 s2 w H3 ?_ h3) h1) σ H Q hh nf eo q
  obtain ⟨da, eda, em'⟩ := ob_cases (by rw [← em]; exact nf)
  obtain ⟨db, edb, em''⟩ := ob_cases (by rw [← em', ← em]; exact nf)
  rw [asLst_eq eda] at ea
  rw [asLst_eq edb] at eb
  exact ⟨da, db, ea, eb, fun y => by have := hk da db y; rw [em, em', em'']; exact this⟩
def Fl.on {Z R Q : Type} (o : Fl Z R) (a : Z → Res Q) (b : R → Res Q) : Res Q := match o with | .nx z => a z | .rt r => b r
theorem rs_at {t : TS} (s' : State) (e : s = s') (h : RS F tmp s' m t N Rt) : RS F tmp s m t N Rt := by subst e; exact h
theorem all1 {P : Nat → Prop} {a : Nat} (h : P a) : ∀ i ∈ [a], P i := fun i hi => by
  rw [List.mem_singleton] at hi; subst hi; exact h
theorem all2 {P : Nat → Prop} {a b : Nat} (h : P a) (k : P b) : ∀ i ∈ [a, b], P i := fun i hi => by
  rcases List.mem_cons.mp hi with e | e
  · subst e; exact h
  · rw [List.mem_singleton] at e; subst e; exact k
theorem all3 {P : Nat → Prop} {a b c : Nat} (h : P a) (k : P b) (l : P c) : ∀ i ∈ [a, b, c], P i := fun i hi => by
  rcases List.mem_cons.mp hi with e | e
  · subst e; exact h
  · exact all2 k l i e
def lcBodyR (F : Fc) (tmp : Tmp) (S : State) (is : List Nat) (g : TG) (tt : TT) (te : TE) (m : Res (Option D)) (d : D) : Prop :=
  RG F tmp S m is g d (fun s2 m2 => RT F tmp s2 m2 tt (fun b s3 m3 => ∃ ma mb, m3 = (if b = true then ma else mb) ∧
    (b = true → RD F tmp s3 te ma (fun tm s4 m4 => ∃ y, tm = .own (.f y) ∧ m4 = .ok (some y) ∧ Sub s4 S)) ∧ (b = false → mb = .ok none ∧ Sub s3 S)))
theorem rd_sub {R' : Type} {F : Fc} {tmp : Tmp} {s : State} {te : TE} {mr : Res R'} {mu : Res (R' × Unit)} (em : mu = rb mr fun o => .ok (o, ())) {K1 : TM → State → Res R' → Prop} {K2 : TM → State → Res (R' × Unit) → Prop} (h : RD F tmp s te mr K1) (hk : ∀ tm s', K1 tm s' mr → K2 tm s' mu) : RD F tmp s te mu K2 := fun σ H Q hh nf eo q =>
  h σ H Q hh (fun z => nf (by rw [em, z]; rfl)) (eo.of fun e he => by rw [em, he]; rfl) fun tm s' v H' k h1 => q tm s' v H' (hk tm s' k) h1
theorem rd_lcR {wi : TI} {g : TG} {tt : TT} {vs : List Nat} (is : List Nat) (hv : ∀ i ∈ is, i ∈ vs) (hp : ∀ i ∈ vs, F.pv i = none)
    (h : RI F tmp s m wi (fun ex P pb ds s1 m1 => ∃ (S : State) (f : D → Res (Option D)) (k : List D → Res R), m1 = rb (fmR ds f) k ∧ Sub s1 S ∧ P S ∧ (∀ i ∈ vs, S[i]? = some none) ∧ noAlis vs (ex ++ tmp) = true ∧
      (∀ d lv acc, lcBodyR F ((lv, .own (.l acc)) :: (ex ++ tmp)) S is g tt te (f d) d) ∧ ∀ ys, K (.own (.l ys)) (pb S) (k ys))) : RD F tmp s (tLc wi g tt te vs) m K :=
  rd_lc (Z := Unit) is hv hp fun σ H Q hh nf eo q => h σ H Q hh nf eo fun ex P pb ds s1 J H1 ⟨S, f, k, em, sb, hP, hS, na, body, fin⟩ => q ex P pb ds s1 J H1 ⟨fun _ => S, (), fun _ d => rb (f d) fun o => .ok (o, ()), fun p => k p.1, by
      rw [fmR_fmS, em]
      cases fmR ds f <;> rfl, sb, fun _ => hP, fun _ => hS, na, fun z d lv acc => by
      have b := body d lv acc
      intro σ2 H2 v2 Q2 hh2 nf2 eo2 q2
      have nf3 : f d ≠ .fail := fun z => nf2 (by show rb (f d) _ = _; rw [z]; rfl)
      have eo3 : EOk F (f d) := eo2.of fun e he => by show rb (f d) _ = _; rw [he]; rfl
      refine b σ2 H2 v2 Q2 hh2 nf3 eo3 fun s3 σ3 H3 hk hh3 hj hl => q2 s3 σ3 H3 ?_ hh3 hj hl
      intro σ4 H4 Q4 hh4 nf4 eo4 q4
      refine hk σ4 H4 Q4 hh4 nf3 eo3 fun b s5 H5 ⟨ma, mb, eb, hT, hF⟩ hh5 => q4 b s5 H5 ⟨rb ma fun o => .ok (o, ()), rb mb fun o => .ok (o, ()), ?_, fun hb => ?_, fun hb => ?_⟩ hh5
      · show rb (f d) _ = _
        rw [eb]; cases b <;> rfl
      · refine rd_sub rfl (hT hb) fun tm s6 ⟨y, e1, e2, e3⟩ => ⟨y, (), e1, by rw [e2]; rfl, e3⟩
      · obtain ⟨e1, e2⟩ := hF hb
        exact ⟨(), by rw [e1]; rfl, e2⟩, fun p => fin p.1⟩
theorem rd_idx (h : RD F tmp s to m (fun tm1 s1 m1 => ∃ d k, valS s1 tm1 = some d ∧ m1 = ob (asLst d) k ∧ ∀ l0 x, RD F ((x, tm1) :: tmp) s1 te (k l0) (fun tm2 s2 m2 => ∃ a b k, valS s2 tm1 = some a ∧ valS s2 tm2 = some b ∧ m2 = ob (indexD a b) k ∧ ∀ c, K (.own (.f c)) s2 (k c)))) :
    RD F tmp s (tBM Kf "list" (rIndex Kf) to (tCons te tNil)) m K := rd_index fun σ H Q hh nf eo q => h σ H Q hh nf eo fun tm s1 v H1 ⟨d, k, ea, em, hk⟩ h1 => q tm s1 v H1 (by
      obtain ⟨ds, ed, em'⟩ := ob_cases (by rw [← em]; exact nf)
      rw [asLst_eq ed] at ea
      exact ⟨ds, ea, fun x => by have := hk ds x; rw [em, em']; exact this⟩) h1
theorem rd_get1 (h : RD F tmp s td m (fun tm1 s1 m1 => ∃ d k, valS s1 tm1 = some d ∧ m1 = ob (asDc d) k ∧ ∀ p x, RD F ((x, tm1) :: tmp) s1 ty (k p) (fun tm2 s2 m2 => ∃ a b k, valS s2 tm1 = some a ∧ valS s2 tm2 = some b ∧ m2 = ob (dget1D a b) k ∧ ∀ c, K (.own (.f c)) s2 (k c)))) : RD F tmp s (tDGet1 td ty) m K :=
  rd_dget1 fun σ H Q hh nf eo q => h σ H Q hh nf eo fun tm s1 v H1 ⟨d, k, ea, em, hk⟩ h1 => q tm s1 v H1 (by
      obtain ⟨p, ed, em'⟩ := ob_cases (by rw [← em]; exact nf)
      rw [asDc_eq ed] at ea
      exact ⟨⟨p.1, p.2, ea⟩, fun x => by have := hk p x; rw [em, em']; exact this⟩) h1
theorem rd_jn (h : RD F tmp s to m (fun tm1 s1 m1 => ∃ d k, valS s1 tm1 = some d ∧ m1 = ob (asStr d) k ∧ ∀ l0 x, RD F ((x, tm1) :: tmp) s1 te (k l0) (fun tm2 s2 m2 => ∃ a b k, valS s2 tm1 = some a ∧ valS s2 tm2 = some b ∧ m2 = ob (joinD a b) k ∧ ∀ c, K (.own (.f c)) s2 (k c)))) :
    RD F tmp s (tM1 (fun x xs H Q => ∃ a p ys, x = V.str a ∧ xs = [V.ref p] ∧ (SqL Kf H p (List.map V.str ys) ∨ SqT Kf H p (List.map V.str ys)) ∧ (List.map (fun x : Str => x.length) ys).sum + ys.length * a.length ≤ 16777216 ∧ Q (V.str (Txt.join a ys)) H) to te) m K :=
  rd_join fun σ H Q hh nf eo q => h σ H Q hh nf eo fun tm s1 v H1 ⟨d, k, ea, em, hk⟩ h1 => q tm s1 v H1 (by
      obtain ⟨p, ed, em'⟩ := ob_cases (by rw [← em]; exact nf)
      rw [asStr_eq ed] at ea
      exact ⟨⟨p, ea⟩, fun x => by have := hk p x; rw [em, em']; exact this⟩) h1
/-- x += e, whole numbers -/
theorem rs_aug {i : Nat} {d0 : D} {te : TE} (hs : s[i]? = some (some (.f d0))) (na : noAli i tmp = true) (hp : F.pv i = none) (h : RD F tmp s te m (fun tm s1 m1 => ∃ d k, valS s1 tm = some d ∧ s1.length = s.length ∧ m1 = ob (match d0, d with | .int a, .int b => some (D.int (a + b)) | _, _ => none) k ∧ ∀ c, N (s1.set i (some (.f c))) (k c))) :
    RS F tmp s m (tAug i te (ipI fun i j => i + j)) N Rt := fun σ H De hh nf eo nx rt => by
  have h0 := hh
  obtain ⟨G, ω, h1⟩ := h0
  obtain ⟨v, e, o⟩ := h1.sl i _ hs
  have hil : i < s.length := (List.getElem?_eq_some_iff.mp hs).1
  refine ⟨v, e, h σ H _ hh nf eo fun tm s1 y H1 ⟨d, k, ea, hl, em, hk⟩ h2 => ?_⟩
  obtain ⟨c, ec, em'⟩ := ob_cases (by rw [← em]; exact nf)
  cases d0 <;> cases d <;> try (cases ec; done)
  cases ec
  have h3 := h2
  obtain ⟨G2, ω2, h2⟩ := h2
  have ry := h2.repC h2.tm.1 ea
  refine ⟨_, _, o, ry, nx _ _ _ (by rw [em, em']; exact hk _) ((holds_push (d := .int _) h3.pop fun _ => rfl).store (by rw [hl]; exact hil) na hp)⟩
/-- one pair written -/
theorem rd_disp1 {tk tv : TE} (h : ∀ p, RD F ((p, .own (.dc false [])) :: tmp) s tk m (fun tm1 s1 m1 => ∀ x, RD F ((x, tm1) :: (p, .own (.dc false [])) :: tmp) s1 tv m1 (fun tm2 s2 m2 => ∃ dk dv k, tm1 = .own (.f dk) ∧ tm2 = .own (.f dv) ∧ m2 = (if (keyK dk).isSome = true then k else .fail) ∧ K (.own (.dc false [(dk, dv)])) s2 k))) : RD F tmp s (tDisp [(tk, tv)]) m K := fun σ H Q hh nf eo q => fun p np => by
  have hn : Holds F ((.ref p, .own (.dc false [])) :: tmp) s σ (upd H p (.dK [])) := by
    obtain ⟨G, ω, h⟩ := hh
    exact ⟨G, _, h.newO np ⟨p, [], rfl, by simp, upd_same, rfl⟩⟩
  refine h (.ref p) σ _ _ hn nf eo fun tm1 s1 x H1 h2 h1 => h2 x σ H1 _ h1 nf eo fun tm2 s2 y H2 ⟨dk, dv, k, e1, e2, em, hk⟩ h3 => ?_
  subst e1; subst e2
  have hok : (keyK dk).isSome = true := by
    refine Decidable.byContradiction fun z => ?_
    rw [if_neg z] at em
    exact nf em
  rw [if_pos hok] at em
  obtain ⟨kk, hkk⟩ := Option.isSome_iff_exists.mp hok
  obtain ⟨G, ω, h4⟩ := h3
  have ry := h4.tm.1
  have rx := h4.tm.2.1
  obtain ⟨a, kvs, e3, hw, ha, hr⟩ := h4.tm.2.2.1
  cases e3
  cases (show kvs = [] from hr)
  have own : Own G (upd H2 p (.dK (mergeK [] [(kk, y)]))) ω [1, tmp.length] (.dc false [(dk, dv)]) (.ref p) := ⟨p, mergeK [] [(kk, y)], rfl, hw, upd_same, kk, y, [], rfl, keyK_kD hkk, ry, rfl⟩
  refine ⟨ha, [(kk, y)], by rw [show x = kV kk from rep_key hkk (Rep.mono h4.gH _ _ rx)]; rfl, by show 1 ≤ 15; omega, ?_⟩
  refine q _ s2 _ _ (by rw [em]; exact hk) ⟨G, ω, Hd.wr (tmp' := (.ref p, .own (.dc false [(dk, dv)])) :: tmp) h4.pop.pop.pop hw _ rfl (fun j u e => ?_) ⟨own, Tms.wrO hw tmp (fun j hj => ?_) h4.tm.2.2.2⟩⟩
  · obtain ⟨v', b1, b2⟩ := h4.sl j u e
    exact ⟨v', b1, Own.wrO hw (by simp [pre]) b2⟩
  · have : ¬ j = tmp.length := by omega
    simp [pre, this]
end
end VL

namespace VL
open PySem L2
variable [EC]
def isnD (a b : D) : Option Bool := match b with | .non => isNoneD a | _ => none
def nnD (a b : D) : Option Bool := match b with | .non => (isNoneD a).map not | _ => none
theorem o_isn : Op2B (fun x y H Q => y = .non ∧ Q (.bl (decide (x = .non))) H) isnD := o_isN
theorem o_nn : Op2B (fun x y H Q => y = .non ∧ Q (.bl (!decide (x = .non))) H) nnD := o_notN
def augD (a b : D) : Option D := match a, b with | .int a, .int b => some (D.int (a + b)) | _, _ => none
section
variable {R : Type} {F : Fc} {tmp : Tmp} {s : State} {m : Res R} {K : Rs R} {N : Rn R} {Rt : Rr R} {ta tb te to ti td ty : TE} {Kf : PySem.W.Frag}
theorem rs_augD {i : Nat} {d0 : D} {te : TE} (hs : s[i]? = some (some (.f d0))) (na : noAli i tmp = true) (hp : F.pv i = none) (h : RD F tmp s te m (fun tm s1 m1 => ∃ d k, valS s1 tm = some d ∧ s1.length = s.length ∧ m1 = ob (augD d0 d) k ∧ ∀ c, N (s1.set i (some (.f c))) (k c))) :
    RS F tmp s m (tAug i te (ipI fun i j => i + j)) N Rt := rs_aug hs na hp h
theorem rd_lenN {i n : Nat} {ts : List T} (hs : s[i]? = some (some (.ll ts))) (e : ts.length = n) (k : K (.own (.f (.int n))) s m) : RD F tmp s (tCB (rLen Kf) (tCons (tVar i) tNil)) m K := rd_len_ll hs (e ▸ k)
theorem mapTl {ls : List (List D)} {x : List D} : ls.map T.l ++ [.l x] = (ls ++ [x]).map T.l := by simp
end
def chk (t : T) (o : List (Option T)) : Bool := t.fl && o.all fun x => match x with | some u => u.fl | none => true
theorem chk_ok {t : T} {o : List (Option T)} (h : chk t o = true) : t.fl = true ∧ ∀ (j : Nat) u, o[j]? = some (some u) → u.fl = true := by
  simp only [chk, Bool.and_eq_true, List.all_eq_true] at h
  refine ⟨h.1, fun j u e => ?_⟩
  exact h.2 (some u) (List.mem_of_getElem? e)
theorem rd_callCG {A R R' : Type} {ec : Nat → Addr} {ea : A → List T} {mir : A → Res R'} {er : R' → T} {eo : R' → List (Option T)} {F : Fc} {tmp : Tmp} {s : State} {m : Res R} {K : Rs R} {t : TA} {E : XK} (bs : List Nat) (hec : F.ec = ec) (hE : (∀ c d H', F.E c d H' → E c d H') ∨ ∀ a e, mir a ≠ .err e)
    (h : RA F tmp s m t (fun tms s1 m1 => ∃ (a : A) (k : R' → Res R) (mk : List TM), m1 = rb (mir a) (fun r => if chk (er r) (eo r) = true then k r else .fail) ∧ argOk s1 bs tms mk (ea a) ∧ aliNd mk = true ∧ ∀ r, K (.own (er r)) (putOuts s1 mk (eo r)) (k r))) :
    RD F tmp s (tCall (spOf ec ea mir er eo) [] E t) m K :=
  rd_callBG bs hec hE fun σ H Q hh nf eo' q => h σ H Q hh nf eo' fun tms s' vs H' ⟨a, k, mk, e1, e2, e3, hk⟩ => q tms s' vs H' ⟨a, _, mk, e1, e2, e3, fun r hn => by
    by_cases c : chk (er r) (eo r) = true
    · simp only [if_pos c]
      exact ⟨(chk_ok c).1, (chk_ok c).2, hk r⟩
    · exact absurd (if_neg c) hn⟩
theorem rd_callC {A R R' : Type} {ec : Nat → Addr} {ea : A → List T} {mir : A → Res R'} {er : R' → T} {eo : R' → List (Option T)} {F : Fc} {tmp : Tmp} {s : State} {m : Res R} {K : Rs R} {t : TA} {E : XK} (bs : List Nat) (hec : F.ec = ec) (hE : F.E = E)
    (h : RA F tmp s m t (fun tms s1 m1 => ∃ (a : A) (k : R' → Res R) (mk : List TM), m1 = rb (mir a) (fun r => if chk (er r) (eo r) = true then k r else .fail) ∧ argOk s1 bs tms mk (ea a) ∧ aliNd mk = true ∧ ∀ r, K (.own (er r)) (putOuts s1 mk (eo r)) (k r))) :
    RD F tmp s (tCall (spOf ec ea mir er eo) [] E t) m K := rd_callCG bs hec (.inl fun _ _ _ z => hE ▸ z) h
theorem hu_1 {k : Nat} {A : Around} (r : Room k A) : A.units + 1 < cLine := by have := r.un; omega
theorem hu_64 {k : Nat} {A : Around} (r : Room k A) : A.units + 64 < cLine := by have := r.un; omega
def FU : Nat := 1000000
/-! rules with the written part named -/
section
variable {X : Cx} {Kf : PySem.W.Frag}
theorem ix_anyK (hK : X.K = Kf) : IxR X (rIxA Kf) := hK ▸ ix_any
theorem sl_listK (hK : X.K = Kf) : SlR X (rSlL Kf) := hK ▸ sl_list
theorem mt_indexK (hK : X.K = Kf) : MtR X "list.index" (rIndex Kf) := hK ▸ mt_index
theorem op_inK (hK : X.K = Kf) : OpR X (compareOp .In) (rInA Kf) := hK ▸ op_inA
theorem op_notInK (hK : X.K = Kf) : OpR X (compareOp .NotIn) (rNotInA Kf) := hK ▸ op_notInA
theorem call_lenK (hK : X.K = Kf) : CallR X (.builtin "len") (rLen Kf) := by subst hK; exact call_len
theorem call_listK (hK : X.K = Kf) : CallR X (.type "list") (rList Kf) := by subst hK; exact call_list_of
theorem call_isiK' (hK : X.K = Kf) : CallR X (.builtin "isinstance") (rIsi Kf) := by subst hK; exact call_isi
theorem pi_listK {tg l : Expr} {tl : TE} (hK : X.K = Kf) (hl : PE X l tl) : PI X tg l (iList Kf tl) := hK ▸ pi_list hl
theorem pi_enumK {e : Expr} {ta : TA} {p pos tpos : Pos} {elts : List Expr} {kk : Nat} (hK : X.K = Kf) (hg : Gl X "enumerate") (hm : X.mg "enumerate" = none) (ha : PA X [e] ta) (hs : starEach [e] X.env = [(false, eval e X.env)] := by rfl) :
    PI X (.Tuple elts kk tpos) (.Call (.Name "enumerate" p) [e] [] pos) (iEnum Kf ta) := hK ▸ pi_enum hg hm ha hs
theorem pi_zipK {e e2 : Expr} {ta : TA} {p pos tpos : Pos} {elts : List Expr} {kk : Nat} (hK : X.K = Kf) (hg : Gl X "zip") (hm : X.mg "zip" = none) (ha : PA X [e, e2] ta)
    (hs : starEach [e, e2] X.env = (false, eval e X.env) :: starEach [e2] X.env := by rfl) (hpl : (backTo pos (starEach [e2] X.env)).any (·.1) = false := by rfl) :
    PI X (.Tuple elts kk tpos) (.Call (.Name "zip" p) [e, e2] [] pos) (iZip Kf ta) := hK ▸ pi_zip hg hm ha hs hpl
theorem pg_tupK {es : List Expr} {k : Nat} {t : TGs} {n : Nat} {pos : Pos} (hK : X.K = Kf) (hc : X.calm = true) (h : PGs X es t)
    (hn : (assignEach es X.env).length = n := by rfl) (hst : (assignEach es X.env).findIdx? (·.1) = none := by rfl) : PG X (.Tuple es k pos) (gTup Kf n t) := hK ▸ pg_tup hc h hn hst
theorem pe_bm0K {o : Expr} {to : TE} {name : Str} {apos cpos : Pos} {T id : String} {r : V → List V → Hp → VK → Prop} (hK : X.K = Kf) (pa : PlainAttrs T) (slot : Slot T name id) (hty : typeOf (.builtin id) = pure (.type "method_descriptor")) (hm : MtR X id r) (ho : PE X o to)
    (hbase : attributeBase o name X.env (eval o X.env) = eval o X.env := by rfl) (hline : (apos.endLine == cpos.line) = true := by rfl) : PE X (.Call (.Attribute o name apos) [] [] cpos) (tBM0 Kf T r to) := hK ▸ pe_bm0 pa slot hty hm ho hbase hline
theorem pe_bmK {o e : Expr} {es : List Expr} {to : TE} {t : TA} {name : Str} {apos cpos : Pos} {T id : String} {r : V → List V → Hp → VK → Prop} (hK : X.K = Kf) (pa : PlainAttrs T) (slot : Slot T name id) (hty : typeOf (.builtin id) = pure (.type "method_descriptor")) (hm : MtR X id r) (ho : PE X o to) (ha : PA X (e :: es) t)
    (hbase : attributeBase o name X.env (eval o X.env) = eval o X.env := by rfl)
    (hfew : ((backTo cpos (starEach (e :: es) X.env)).all (fun x => !x.1) && (backToKw cpos (keywordEach [] X.env)).all (fun x => x.1.isSome)
      && decide ((e :: es).length + ([] : List Keyword).length + (if ([] : List Keyword).isEmpty then 0 else 1) < 30)) = true := by rfl)
    (hline : (apos.endLine == cpos.line) = true := by rfl) (hs : starEach (e :: es) X.env = (false, eval e X.env) :: starEach es X.env := by rfl) (hplain : (backTo cpos (starEach es X.env)).any (·.1) = false := by rfl) :
    PE X (.Call (.Attribute o name apos) (e :: es) [] cpos) (tBM Kf T r to t) := hK ▸ pe_bm pa slot hty hm ho ha hbase hfew hline hs hplain
def rJoin (Kf : PySem.W.Frag) : V → List V → Hp → VK → Prop := fun x xs H Q => ∃ a p ys, x = V.str a ∧ xs = [V.ref p] ∧ (SqL Kf H p (List.map V.str ys) ∨ SqT Kf H p (List.map V.str ys)) ∧ (List.map (fun x : Str => x.length) ys).sum + ys.length * a.length ≤ 16777216 ∧ Q (V.str (Txt.join a ys)) H
theorem pe_joinK {o e : Expr} {to te : TE} {apos pos : Pos} (hK : X.K = Kf) (ho : PE X o to) (he : PE X e te) (hs : starEach [e] X.env = [(false, eval e X.env)] := by rfl) (hbase : attributeBase o "join" X.env (eval o X.env) = eval o X.env := by rfl) (hline : (apos.endLine == pos.line) = true := by rfl) :
    PE X (.Call (.Attribute o "join" apos) [e] [] pos) (tM1 (rJoin Kf) to te) := by subst hK; exact pe_join ho he hs hbase hline
end
end VL

namespace VL
open PySem L2
variable [EC]
/-! the script -/
def noL (o : Obj) : Bool := match o.cls with | .type t => !(t == "list") | _ => true
theorem lookup_mem {K : PySem.W.Frag} {a : Addr} {o : Obj} : K.lookup a = some o → (a, o) ∈ K := by
  induction K with
  | nil => intro h; cases h
  | cons p r ih =>
    intro h
    rw [List.lookup_cons] at h
    split at h
    · rename_i e
      cases h
      have : a = p.1 := by simpa using e
      subst this
      exact List.mem_cons_self
    · exact List.mem_cons_of_mem _ (ih h)
theorem noL_rd {K : PySem.W.Frag} {H : Hp} {a : Addr} {xs : List V} (h : (K.all fun p => noL p.2) = true) (hS : SqL K H a xs) : Rd H a (.lst xs) := by
  rcases hS with r | ⟨o, its, n, e, c, _⟩
  · exact r
  · have := List.all_eq_true.mp h _ (lookup_mem e)
    simp only [noL, c] at this
    exact absurd this (by decide)
theorem reps_ints {G : Hp} : ∀ ns : List Int, Reps G (ns.map D.int) (ns.map V.int)
  | [] => rfl
  | i :: r => ⟨.int i, r.map V.int, rfl, rfl, reps_ints r⟩
theorem law_end {K : PySem.W.Frag} {H : Hp} {a : Addr} {ns : List Int} {E : XK} {mir : D → Res D} (h : (K.all fun p => noL p.2) = true) (hl : ns.length ≤ 63) (hS : SqL K H a (ns.map V.int)) (hm : mir (.lst (ns.map .int)) = .ok (.bl true)) :
    spOf (A := D) (R := D) EC.ec (fun a => [.f a]) (fun a => mir a) (fun r => .f r) (fun r => [none]) [.ref a] H (fun v _ => v = .bl true) E := by
  refine ⟨.lst (ns.map .int), H, fun _ => none, Same.refl _, fun x p e => absurd e (by simp), rfl, fun k t e => ?_, ?_, fun r v H' e p => ?_, fun e od H' z => ?_⟩
  · match k, e with
    | 0, e =>
      cases e
      refine ⟨.ref a, rfl, a, ns.map V.int, rfl, noL_rd h hS, ?_, reps_ints ns⟩
      rw [List.length_map, sizeLine_eq]; omega
    | k + 1, e => simp at e
  · show mir _ ≠ _
    rw [hm]; intro z; cases z
  · have e' : mir (.lst (ns.map .int)) = .ok r := e
    rw [hm] at e'
    cases e'
    obtain ⟨G', w', _, _, o, _⟩ := p
    exact o
  · have z' : mir (.lst (ns.map .int)) = .err e := z
    rw [hm] at z'; cases z'
end VL

namespace VL
open PySem L2
/-! mathematics of mirrors -/
def Sat {R : Type} (m : Res R) (P : R → Prop) : Prop := ∃ r, m = .ok r ∧ P r
section
variable {R S Z : Type}
theorem sat_rb {ma : Res S} {k : S → Res R} {P : S → Prop} {Q : R → Prop} (h : Sat ma P) (hk : ∀ r, P r → Sat (k r) Q) : Sat (rb ma k) Q := by
  obtain ⟨r, rfl, p⟩ := h; exact hk r p
theorem sat_ob {o : Option S} {c : S} {k : S → Res R} {Q : R → Prop} (e : o = some c) (h : Sat (k c) Q) : Sat (ob o k) Q := by subst e; exact h
theorem sat_ok {r : R} {P : R → Prop} (h : P r) : Sat (.ok r) P := ⟨r, rfl, h⟩
theorem Sat.mono {m : Res R} {P Q : R → Prop} (h : Sat m P) (i : ∀ r, P r → Q r) : Sat m Q := by obtain ⟨r, e, p⟩ := h; exact ⟨r, e, i r p⟩
theorem sat_of {m : Res R} {r : R} (h : m = .ok r) : Sat m (fun x => x = r) := ⟨r, h, rfl⟩
theorem of_sat {m : Res R} {r : R} (h : Sat m (fun x => x = r)) : m = .ok r := by obtain ⟨x, e, p⟩ := h; rw [e, p]
theorem sat_rbe {ma : Res S} {r : S} {k : S → Res R} {Q : R → Prop} (h : ma = .ok r) (hk : Sat (k r) Q) : Sat (rb ma k) Q := by subst h; exact hk
theorem sat_if {c : Prop} [Decidable c] {a b : Res R} {Q : R → Prop} (h1 : c → Sat a Q) (h2 : ¬ c → Sat b Q) : Sat (if c then a else b) Q := by
  by_cases h : c
  · rw [if_pos h]; exact h1 h
  · rw [if_neg h]; exact h2 h
theorem sat_forN {f : Z → D → Res Z} {I : Nat → Z → Prop} : ∀ (ds : List D) (z0 : Z) (n : Nat), I n z0 → (∀ i z d, ds[i]? = some d → I (n + i) z → Sat (f z d) (I (n + i + 1))) → Sat (forN ds z0 f) (I (n + ds.length))
  | [], z0, n, h0, _ => ⟨z0, rfl, h0⟩
  | d :: r, z0, n, h0, h => by
    refine sat_rb (h 0 z0 d rfl h0) fun z hz => ?_
    have := sat_forN r z (n + 1) hz fun i z d e hi => by
      have := h (i + 1) z d (by simpa using e) (by rw [show n + (i + 1) = n + 1 + i by omega]; exact hi)
      rwa [show n + (i + 1) = n + 1 + i by omega] at this
    rwa [show n + 1 + r.length = n + (d :: r).length by simp; omega] at this
theorem sat_forN0 {f : Z → D → Res Z} {I : Z → Prop} {ds : List D} {z0 : Z} (h0 : I z0) (h : ∀ z d, d ∈ ds → I z → Sat (f z d) I) : Sat (forN ds z0 f) I :=
  sat_forN (I := fun _ => I) ds z0 0 h0 fun i z d e hi => h z d (List.mem_of_getElem? e) hi
theorem sat_forL {f : Z → D → Res (Fl Z R)} {I : Nat → Z → Prop} : ∀ (ds : List D) (z0 : Z) (n : Nat), I n z0 → (∀ i z d, ds[i]? = some d → I (n + i) z → Sat (f z d) (fun o => ∃ z', o = .nx z' ∧ I (n + i + 1) z')) → Sat (forL ds z0 f) (fun o => ∃ z', o = .nx z' ∧ I (n + ds.length) z')
  | [], z0, n, h0, _ => ⟨_, rfl, z0, rfl, h0⟩
  | d :: r, z0, n, h0, h => by
    refine sat_rb (h 0 z0 d rfl h0) fun o hz => ?_
    obtain ⟨z, rfl, hz⟩ := hz
    have := sat_forL r z (n + 1) hz fun i z d e hi => by
      have := h (i + 1) z d (by simpa using e) (by rw [show n + (i + 1) = n + 1 + i by omega]; exact hi)
      rwa [show n + (i + 1) = n + 1 + i by omega] at this
    rwa [show n + 1 + r.length = n + (d :: r).length by simp; omega] at this
theorem sat_forL0 {f : Z → D → Res (Fl Z R)} {I : Z → Prop} {ds : List D} {z0 : Z} (h0 : I z0) (h : ∀ z d, d ∈ ds → I z → Sat (f z d) (fun o => ∃ z', o = .nx z' ∧ I z')) : Sat (forL ds z0 f) (fun o => ∃ z', o = .nx z' ∧ I z') :=
  sat_forL (I := fun _ => I) ds z0 0 h0 fun i z d e hi => h z d (List.mem_of_getElem? e) hi
/-- a loop that may tell at once -/
theorem sat_forLr {f : Z → D → Res (Fl Z R)} {I : Z → Prop} {P : R → Prop} : ∀ (ds : List D) (z0 : Z), I z0 → (∀ z d, d ∈ ds → I z → Sat (f z d) (fun o => (∃ z', o = .nx z' ∧ I z') ∨ ∃ r, o = .rt r ∧ P r)) → Sat (forL ds z0 f) (fun o => (∃ z', o = .nx z' ∧ I z') ∨ ∃ r, o = .rt r ∧ P r)
  | [], z0, h0, _ => ⟨_, rfl, .inl ⟨z0, rfl, h0⟩⟩
  | d :: r, z0, h0, h => by
    refine sat_rb (h z0 d List.mem_cons_self h0) fun o hz => ?_
    rcases hz with ⟨z, rfl, hz⟩ | ⟨x, rfl, hx⟩
    · exact sat_forLr r z hz fun z d e hi => h z d (List.mem_cons_of_mem _ e) hi
    · exact ⟨_, rfl, .inr ⟨x, rfl, hx⟩⟩
theorem sat_while {fc : Z → Res Bool} {f : Z → Res (Fl Z R)} {I : Z → Prop} {E : Z → Prop} {μ : Z → Nat} (h : ∀ z, I z → (fc z = .ok false ∧ E z) ∨ (fc z = .ok true ∧ Sat (f z) (fun o => ∃ z', o = .nx z' ∧ I z' ∧ μ z' < μ z))) :
    ∀ (n : Nat) (z0 : Z), I z0 → μ z0 < n → Sat (whileF n z0 fc f) (fun o => ∃ z, o = .nx z ∧ I z ∧ E z)
  | 0, _, _, hm => absurd hm (Nat.not_lt_zero _)
  | n + 1, z0, h0, hm => by
    rcases h z0 h0 with ⟨e, q⟩ | ⟨e, q⟩
    · show Sat (rb (fc z0) _) _
      rw [e]; exact ⟨_, rfl, z0, rfl, h0, q⟩
    · show Sat (rb (fc z0) _) _
      rw [e]
      show Sat (rb (f z0) _) _
      refine sat_rb q fun o ho => ?_
      obtain ⟨z', rfl, i, m⟩ := ho
      exact sat_while h n z' i (by omega)
theorem sat_whileN {fc : Z → Res Bool} {f : Z → Res Z} {I : Z → Prop} {E : Z → Prop} {μ : Z → Nat} (h : ∀ z, I z → (fc z = .ok false ∧ E z) ∨ (fc z = .ok true ∧ Sat (f z) (fun z' => I z' ∧ μ z' < μ z))) :
    ∀ (n : Nat) (z0 : Z), I z0 → μ z0 < n → Sat (whileN n z0 fc f) (fun z => I z ∧ E z)
  | 0, _, _, hm => absurd hm (Nat.not_lt_zero _)
  | n + 1, z0, h0, hm => by
    rcases h z0 h0 with ⟨e, q⟩ | ⟨e, q⟩
    · show Sat (rb (fc z0) _) _
      rw [e]; exact ⟨_, rfl, h0, q⟩
    · show Sat (rb (fc z0) _) _
      rw [e]
      show Sat (rb (f z0) _) _
      refine sat_rb q fun z' ho => ?_
      exact sat_whileN h n z' ho.1 (by omega)
theorem fmR_eq {f : D → Res (Option D)} {g : D → Option D} : ∀ (ds : List D), (∀ d ∈ ds, f d = .ok (g d)) → fmR ds f = .ok (ds.filterMap g)
  | [], _ => rfl
  | d :: r, h => by
    show rb (f d) _ = _
    rw [h d List.mem_cons_self]
    show rb (fmR r f) _ = _
    rw [fmR_eq r fun d hd => h d (List.mem_cons_of_mem _ hd)]
    rw [List.filterMap_cons]
    cases g d <;> rfl
theorem fmR_map {f : D → Res (Option D)} {g : D → D} (ds : List D) (h : ∀ d ∈ ds, f d = .ok (some (g d))) : fmR ds f = .ok (ds.map g) := by
  rw [fmR_eq (g := fun d => some (g d)) ds h]
  congr 1
  induction ds with
  | nil => rfl
  | cons d r ih => rw [List.filterMap_cons, List.map_cons, ih fun d hd => h d (List.mem_cons_of_mem _ hd)]
theorem sat_fmS {f : Z → D → Res (Option D × Z)} {I : Z → List D → Prop} : ∀ (ds : List D) (z0 : Z) (acc : List D), I z0 acc → (∀ z d acc, d ∈ ds → I z acc → Sat (f z d) (fun o => I o.2 (accD acc o.1))) → Sat (fmS ds z0 f) (fun p => I p.2 (acc ++ p.1))
  | [], z0, acc, h0, _ => ⟨_, rfl, by show I z0 (acc ++ []); rw [List.append_nil]; exact h0⟩
  | d :: r, z0, acc, h0, h => by
    refine sat_rb (h z0 d acc List.mem_cons_self h0) fun o ho => ?_
    have := sat_fmS r o.2 (accD acc o.1) ho fun z d acc hd => h z d acc (List.mem_cons_of_mem _ hd)
    refine sat_rb this fun q hq => ⟨_, rfl, ?_⟩
    cases e : o.1 with
    | none => rw [e] at hq; exact hq
    | some y =>
      rw [e] at hq
      have : acc ++ [y] ++ q.1 = acc ++ (y :: q.1) := by simp
      rw [← this]; exact hq
end
/-! values -/
theorem atI_n {α : Type} (xs : List α) (j : Nat) : atI xs ((j : Nat) : Int) = xs[j]? := by
  unfold atI ixN
  rw [if_pos (by omega)]
  by_cases h : (j : Int) < xs.length
  · rw [if_pos h]; simp
  · rw [if_neg h]; simp; omega
theorem ixN_n {n j : Nat} (h : j < n) : ixN n ((j : Nat) : Int) = some j := by
  unfold ixN
  rw [if_pos (by omega), if_pos (by omega)]; simp
theorem ix_l {l : List D} {i : Nat} {d : D} (h : l[i]? = some d) : ixD (.lst l) (.int (i : Nat)) = some d := by
  show atI l _ = _
  rw [atI_n]; exact h
theorem ix_t {l : List D} {i : Nat} {d : D} (h : l[i]? = some d) : ixD (.tup l) (.int (i : Nat)) = some d := by
  show atI l _ = _
  rw [atI_n]; exact h
theorem ix_s {s : List Nat} {i c : Nat} (h : s[i]? = some c) (hl : s.length ≤ 16777216) : ixD (.str s) (.int (i : Nat)) = some (.str [c]) := by
  show (if s.length ≤ 16777216 then (atI s _).map _ else none) = _
  rw [if_pos hl, atI_n, h]; rfl
theorem set_l {l : List D} {i : Nat} {d : D} (h : i < l.length) : setL l (.int (i : Nat)) d = some (l.set i d) := by
  show (ixN l.length _).map _ = _
  rw [ixN_n h]; rfl
theorem ixNd_n {n i : Nat} (h : i < n) : ixNd n (.int (i : Nat)) = some i := ixN_n h
theorem rng0 {n : Nat} (h : n ≤ 16777216) : rngD (.int 0) (.int (n : Nat)) = some ((List.range n).map fun k => .int (k : Nat)) := by
  show (if _ then _ else _) = _
  rw [if_pos (by omega)]
  simp
theorem ap_l {l : List D} {d : D} (h : l.length < 16777216) : apL l d = some (l ++ [d]) := if_pos h
theorem cat_l {a b : List D} (h : a.length + b.length ≤ 16777216) : catD (.lst a) (.lst b) = some (a ++ b) := if_pos h
theorem cut_to {α : Type} (l : List α) (n : Nat) (h : n ≤ l.length) : cut l none (some (n : Nat)) = l.take n := by
  unfold cut
  rw [HT.sIx_nat, HT.sIx_none, Nat.min_eq_left h]; simp
theorem cut_from {α : Type} (l : List α) (n : Nat) (h : n ≤ l.length) : cut l (some (n : Nat)) none = l.drop n := by
  unfold cut
  rw [HT.sIx_nat, HT.sIx_none, Nat.min_eq_left h]
  rw [List.take_of_length_le (by rw [List.length_drop]; omega)]
theorem add_s {a b : List Nat} (h : a.length + b.length ≤ 16777216) : addD (.str a) (.str b) = some (.str (a ++ b)) := if_pos h
theorem len_s {a : List Nat} (h : a.length ≤ 16777216) : lenD (.str a) = some (.int a.length) := if_pos h
theorem mod_i {a b : Int} (h : 0 < b) : modD (.int a) (.int b) = some (.int (a % b)) := if_pos h
theorem fdiv_i {a b : Int} (h : 0 < b ∧ b < 1073741824) : fdivD (.int a) (.int b) = some (.int (a / b)) := if_pos h
theorem mul_l {a b : Int} (h : -18446744073709551616 < a ∧ a < 18446744073709551616) : mulD (.int a) (.int b) = some (.int (a * b)) := if_pos (.inl h)
theorem mul_r {a b : Int} (h : -18446744073709551616 < b ∧ b < 18446744073709551616) : mulD (.int a) (.int b) = some (.int (a * b)) := if_pos (.inr h)
theorem add_i {a b : Int} : addD (.int a) (.int b) = some (.int (a + b)) := rfl
theorem len_l {l : List D} : lenD (.lst l) = some (.int l.length) := rfl
mutual
theorem eqvR : ∀ d : D, d.plain = true → D.eqv d d = true
  | .non, _ => rfl
  | .bl b, _ => by simp [D.eqv]
  | .int b, _ => by simp [D.eqv]
  | .str b, _ => by simp [D.eqv]
  | .tup l, h => by simp only [D.eqv]; exact eqvsR l (by simpa [D.plain] using h)
  | .lst l, h => by simp only [D.eqv]; exact eqvsR l (by simpa [D.plain] using h)
  | .dct _ _, h => by simp [D.plain] at h
  | .opq _, h => by simp [D.plain] at h
  | .exc _ _, p => by cases p
  | .fd _ _ _, p => by cases p
theorem eqvsR : ∀ l : List D, D.plains l = true → D.eqvs l l = true
  | [], _ => rfl
  | d :: r, h => by
    simp only [D.plains, Bool.and_eq_true] at h
    simp only [D.eqvs, Bool.and_eq_true]
    exact ⟨eqvR d h.1, eqvsR r h.2⟩
end
theorem eq_same {d : D} (p : d.plain = true) (h : d.dep ≤ 60) : eqD d d = some true := by
  unfold eqD
  rw [if_pos ⟨p, p, by omega⟩, eqvR d p]
theorem ne_same {d : D} (p : d.plain = true) (h : d.dep ≤ 60) : neD d d = some false := by
  unfold neD
  rw [eq_same p h]; rfl
theorem eq_str {a b : List Nat} : eqD (.str a) (.str b) = some (a == b) := by
  unfold eqD
  rw [if_pos ⟨rfl, rfl, Nat.zero_le _⟩]
  simp [D.eqv]
theorem ne_str {a b : List Nat} : neD (.str a) (.str b) = some (!(a == b)) := by
  unfold neD; rw [eq_str]; rfl
theorem ne_nil {l : List D} (p : D.plains l = true) (h : D.deps l ≤ 60) : neD (.lst l) (.lst []) = some (!l.isEmpty) := by
  unfold neD eqD
  rw [if_pos ⟨by simpa [D.plain] using p, rfl, by simp [D.dep, D.deps]⟩]
  cases l <;> rfl
theorem eq_nil {l : List D} (p : D.plains l = true) : eqD (.lst l) (.lst []) = some l.isEmpty := by
  unfold eqD
  rw [if_pos ⟨by simpa [D.plain] using p, rfl, by simp [D.dep, D.deps]⟩]
  cases l <;> rfl
theorem plains_iff : ∀ {l : List D}, D.plains l = true ↔ ∀ d ∈ l, d.plain = true
  | [] => by simp [D.plains]
  | d :: r => by simp [D.plains, plains_iff (l := r)]
theorem deps_le : ∀ {l : List D} {n : Nat}, (∀ d ∈ l, d.dep ≤ n) → D.deps l ≤ n
  | [], _, _ => Nat.zero_le _
  | d :: r, n, h => by
    simp only [D.deps]
    have := h d List.mem_cons_self
    have := deps_le (l := r) fun x hx => h x (List.mem_cons_of_mem _ hx)
    omega
variable [EC]
def absD : D → Option D | .int i => some (.int (if i < 0 then -i else i)) | _ => none
theorem o_abs : Op1C (fun x H Q => (fun xs H Q => ∃ i, xs = [V.int i] ∧ Q (.int (if i < 0 then -i else i)) H : List V → Hp → VK → Prop) [x] H Q) absD := fun G H x a c Q sm ra e q => by
  cases a <;> try (cases e; done)
  cases e
  exact ⟨_, by rw [show x = _ from ra], q _ rfl⟩
def andD : D → D → Option D | .int a, .int b => some (.int (Builtin.bitAnd a b)) | _, _ => none
theorem o_and : Op2C (rI0 fun i j => .int (Builtin.bitAnd i j)) andD := fun G H x y a b c Q sm ra rb e q => by
  cases a <;> cases b <;> try (cases e; done)
  cases e
  exact ⟨_, _, ra, rb, q _ rfl⟩
def shrD : D → D → Option D | .int a, .int b => if 0 ≤ b then some (.int (a / 2 ^ b.toNat)) else none | _, _ => none
theorem o_shr : Op2C (rI (fun _ j => 0 ≤ j) fun i j => .int (i / 2 ^ j.toNat)) shrD := fun G H x y a b c Q sm ra rb e q => by
  cases a <;> cases b <;> try (cases e; done)
  simp only [shrD] at e
  split at e
  · cases e; rename_i i j h; exact ⟨_, _, ra, rb, h, q _ rfl⟩
  · cases e
def shlD : D → D → Option D | .int a, .int b => if 0 ≤ b ∧ b ≤ 1000000 ∧ a.natAbs < 18446744073709551616 then some (.int (a * 2 ^ b.toNat)) else none | _, _ => none
theorem o_shl : Op2C (rI CPow fun i j => .int (i * 2 ^ j.toNat)) shlD := fun G H x y a b c Q sm ra rb e q => by
  cases a <;> cases b <;> try (cases e; done)
  simp only [shlD] at e
  split at e
  · cases e; rename_i i j h; exact ⟨_, _, ra, rb, h, q _ rfl⟩
  · cases e
def orD : D → D → Option D | .int a, .int b => some (.int (Builtin.bitOr a b)) | _, _ => none
theorem o_or : Op2C (rI0 fun i j => .int (Builtin.bitOr i j)) orD := fun G H x y a b c Q sm ra rb e q => by
  cases a <;> cases b <;> try (cases e; done)
  cases e
  exact ⟨_, _, ra, rb, q _ rfl⟩
end VL

/-! zip of a list and a text; its pairs as a dict's argument -/
namespace PySem.ZS
open PySem

theorem siAt {h h' : Heap} {a : Addr} {ty : String} {x : Str} {t : Tok} {i : Nat} (y : h.IsStrIter a ty x t i) (k : ∀ o, h.get? a = some o → h'.get? a = some o) : h'.IsStrIter a ty x t i :=
  let ⟨o, e, r⟩ := y; ⟨o, k o e, r⟩
abbrev hA (h : Heap) (l : Addr) : Heap := h.push { cls := .type "list_iterator", data := .fields #[.ref l, .int 0 0] }
abbrev hB (h : Heap) (l : Addr) (x : Str) (t : Tok) : Heap := (hA h l).push { cls := .type (strIterType x), data := .fields #[.str x t, .int 0 0] }
abbrev hC (h : Heap) (l : Addr) (x : Str) (t : Tok) : Heap := (hB h l x t).push { cls := .type "tuple", data := .seq #[.ref h.objs.size, .ref (hA h l).objs.size] }
abbrev hD (h : Heap) (l : Addr) (x : Str) (t : Tok) : Heap := (hC h l x t).push { cls := .type "tuple", data := .seq #[.none, .none] }
abbrev hE (h : Heap) (l : Addr) (x : Str) (t : Tok) : Heap := (hD h l x t).push { cls := .type "zip", data := .fields #[.none, .bool false, .bool false, .ref (hB h l x t).objs.size, .ref (hC h l x t).objs.size] }
set_option maxHeartbeats 2000000 in
theorem made (l : Addr) (xs : Array Value) (x : Str) (t : Tok) :
    Meets (Builtin.«zip.__new__» ⟨[.type "zip", .ref l, .str x t], []⟩) (fun _ R s => s.heap.IsList l xs ∧ R (.ok (.ret (.ref (hD s.heap l x t).objs.size))) { s with heap := hE s.heap l x t }) :=
  .of_wp fun prog w A R s h => by
    obtain ⟨hp, g, d, tk, os⟩ := s; obtain ⟨hl, h⟩ := h; have hsub := sub_zip
    have hL : Heap.IsList (Shared.heap ⟨hp, g, d, tk, os⟩) l xs := hl
    wp_walk using wpAny_pyIter_list hL, wpAny_pyIter_strU
    exact ⟨_, rfl, h⟩
section
variable {prog : Program} {w : World} {A : Around} {E : Value → Shared → Prop} {s : Shared}
theorem call {l : Addr} {xs : Array Value} {x : Str} {t : Tok} {Q : Value → Shared → Prop} (hl : s.heap.IsList l xs)
    (h : ∀ h', IsZip h' (s.heap.objs.size + 4) (s.heap.objs.size + 2) (s.heap.objs.size + 3) .none → IsPair h' (s.heap.objs.size + 2) (.ref s.heap.objs.size) (.ref (s.heap.objs.size + 1)) → IsPair h' (s.heap.objs.size + 3) .none .none →
      h'.IsListIter s.heap.objs.size l 0 → h'.IsStrIter (s.heap.objs.size + 1) (strIterType x) x t 0 → h'.objs.size = s.heap.objs.size + 5 → (∀ c o, s.heap.get? c = some o → h'.get? c = some o) → Q (.ref (s.heap.objs.size + 4)) { s with heap := h' }) :
    wpAny (model prog w) A (PySem.call (.type "zip") [.ref l, .str x t]) Q E s := by
  refine callType_new F.called_zip (by decide) (F.typeCall_zip_2 _ _) (F.newCall_zip_2 _ _) (fun obj => F.args_object_init_3 obj _ _) F.entry_zip_new (made l xs x t) ⟨hl, ?_⟩
  have a1 : (hA s.heap l).objs.size = s.heap.objs.size + 1 := Heap.size_push ..
  have a2 : (hB s.heap l x t).objs.size = s.heap.objs.size + 2 := by rw [Heap.size_push, a1]
  have a3 : (hC s.heap l x t).objs.size = s.heap.objs.size + 3 := by rw [Heap.size_push, a2]
  have a4 : (hD s.heap l x t).objs.size = s.heap.objs.size + 4 := by rw [Heap.size_push, a3]
  have a5 : (hE s.heap l x t).objs.size = s.heap.objs.size + 5 := by rw [Heap.size_push, a4]
  have b5 : (hE s.heap l x t).get? (hD s.heap l x t).objs.size = some _ := Heap.get?_push_size _ rfl
  have b4 : (hE s.heap l x t).get? (hC s.heap l x t).objs.size = some _ := Heap.get?_push_of_some _ (Heap.get?_push_size _ rfl)
  have b3 : (hE s.heap l x t).get? (hB s.heap l x t).objs.size = some _ := Heap.get?_push_of_some _ (Heap.get?_push_of_some _ (Heap.get?_push_size _ rfl))
  have b2 : (hE s.heap l x t).get? (hA s.heap l).objs.size = some _ := Heap.get?_push_of_some _ (Heap.get?_push_of_some _ (Heap.get?_push_of_some _ (Heap.get?_push_size _ rfl)))
  have b1 : (hE s.heap l x t).get? s.heap.objs.size = some _ := Heap.get?_push_of_some _ (Heap.get?_push_of_some _ (Heap.get?_push_of_some _ (Heap.get?_push_of_some _ (Heap.get?_push_size _ rfl))))
  show _ ∧ _
  rw [a2, a3, a4] at b5; rw [a1, a2] at b3; rw [a3] at b4; rw [a1] at b2; rw [a4]
  exact ⟨⟨_, b5, rfl⟩, h _ b5 b3 b4 ⟨_, b1, rfl, rfl⟩ ⟨_, b2, rfl, rfl⟩ a5 fun c o y => Heap.get?_push_of_some _ (Heap.get?_push_of_some _ (Heap.get?_push_of_some _ (Heap.get?_push_of_some _ (Heap.get?_push_of_some _ y))))⟩
end
end PySem.ZS

namespace PySem.ZS
open PySem PySem.W
abbrev Asc : String := "str_ascii_iterator"
section
variable {prog : Program} {w : World} {A : Around} {E : Value → Shared → Prop} {s : Shared} {z TI TO T i1 i2 l : Addr} {k : Nat} {xs : Array Value} {x a b : Value} {y : Str} {t : Tok} {c : Nat} {f : Bool} {oT : Obj}
theorem itemF {Q : Value → Shared → Prop} (D : ZipApart z TI TO i1 i2 l l) (hz : IsZip s.heap z TI TO .none) (hTI : IsPair s.heap TI (.ref i1) (.ref i2)) (hTO : IsPair s.heap TO a b) (h1 : s.heap.IsListIter i1 l k) (h2 : s.heap.IsStrIter i2 Asc y t k) (hl : s.heap.IsList l xs) (hx : xs[k]? = some x) (hy : y.cps[k]? = some c)
    (hQ : ∀ h', IsZip h' z TI TO (rawInt s.heap.objs.size) → IsPair h' TO x (.str ⟨#[c]⟩ s.toks) → h'.IsListIter i1 l (k + 1) → h'.IsStrIter i2 Asc y t (k + 1) → IsPair h' s.heap.objs.size x (.str ⟨#[c]⟩ s.toks) → h'.objs.size = s.heap.objs.size + 1 →
      (∀ j o, j ≠ z → j ≠ TO → j ≠ i1 → j ≠ i2 → s.heap.get? j = some o → h'.get? j = some o) → Q (.ref s.heap.objs.size) { s with heap := h', toks := s.toks + 1 }) :
    wpAny (model prog w) A (Builtin.«zip.__next__» ⟨[.ref z], []⟩) (fun fin s' => ∃ v, fin = .done (.ret v) ∧ Q v s') E s := by
  show wpAny _ _ (field (.ref z) 2 >>= _) _ _ _; refine wpAny_bind (wpAny_field hz rfl (x := .bool false) rfl ?_)
  show wpAny _ _ (field (.ref z) 3 >>= _) _ _ _; refine wpAny_bind (wpAny_field hz rfl (x := .ref TI) rfl (wpAny_bind (wpAny_seqItems hTI rfl ?_)))
  show wpAny _ _ (Builtin.SmallTypes.ownedTupleIsFree (.ref z) >>= _) _ _ _; refine wpAny_bind ?_; unfold Builtin.SmallTypes.ownedTupleIsFree
  refine wpAny_bind (wpAny_field hz rfl (x := .none) rfl (wpAny_pure ?_)); simp only [if_true]
  refine wpAny_bind (wpAny_rule (wpAny_bind (wpAny_field hz rfl (x := .ref TO) rfl (wpAny_bind (wpAny_setField_rec hz (by simp) fun g1 z1 s1 => ?_)))))
  replace z1 : IsZip g1 z TI TO .ellipsis := z1
  refine wpAny_bind ?_; simp only [List.zipIdx_cons, List.zipIdx_nil, List.forIn_cons, List.forIn_nil]
  refine wpAny_bind (wpAny_bind (wpAny_onRaise ?_)); show wpAny _ _ (Builtin.SmallTypes.nextOf (.ref i1) >>= _) _ _ _
  refine wpAny_bind (wpAny_nextOf_list_item (h1.extBut s1.extBut D.i1z) (hl.extBut s1.extBut D.l1z) hx fun g2 p1 s2 => wpAny_pure ?_)
  have o2 : IsPair g2 TO a b := s2.extBut _ _ D.TOi1 (s1.extBut _ _ D.TOz hTO)
  refine wpAny_bind (wpAny_seqItems o2 rfl (wpAny_bind (wpAny_updateSeq_pair o2 fun g3 o3 s3 => ?_))); replace o3 : IsPair g3 TO x b := o3
  refine wpAny_bind (wpAny_letGo (wpAny_pure (wpAny_bind (wpAny_bind (wpAny_onRaise ?_))))); show wpAny _ _ (Builtin.SmallTypes.nextOf (.ref i2) >>= _) _ _ _
  refine wpAny_bind (wpAny_nextOf_ascii_item (((h2.extBut s1.extBut D.i2z).extBut s2.extBut D.i12.symm).extBut s3.extBut D.TOi2.symm) hy fun g4 p2 s4 => wpAny_pure ?_)
  have o4 : IsPair g4 TO x b := s4.extBut _ _ D.TOi2 o3
  refine wpAny_bind (wpAny_seqItems o4 rfl (wpAny_bind (wpAny_updateSeq_pair o4 fun g5 o5 s5 => ?_))); replace o5 : IsPair g5 TO x (.str ⟨#[c]⟩ s.toks) := o5
  refine wpAny_bind (wpAny_letGo (wpAny_pure (wpAny_pure (wpAny_bind (wpAny_seqItems o5 rfl (wpAny_bind (wpAny_newTuple ?_)))))))
  have e5 : g5.objs.size = s.heap.objs.size := by rw [s5.1, s4.1, s3.1, s2.1, s1.1]
  have z5 : IsZip g5 z TI TO .ellipsis := s5.extBut _ _ D.TOz.symm (s4.extBut _ _ D.i2z.symm (s3.extBut _ _ D.TOz.symm (s2.extBut _ _ D.i1z.symm z1)))
  have k5 : ∀ j o, j ≠ z → j ≠ TO → j ≠ i1 → j ≠ i2 → s.heap.get? j = some o → g5.get? j = some o := fun j o c1 c2 c3 c4 e => s5.extBut _ _ c2 (s4.extBut _ _ c4 (s3.extBut _ _ c2 (s2.extBut _ _ c3 (s1.extBut _ _ c1 e))))
  have q1 : g5.IsListIter i1 l (k + 1) := ((p1.extBut s3.extBut D.TOi1.symm).extBut s4.extBut D.i12).extBut s5.extBut D.TOi1.symm
  have q2 : g5.IsStrIter i2 Asc y t (k + 1) := p2.extBut s5.extBut D.TOi2.symm
  have lz : z < g5.objs.size := Heap.lt_size z5
  show wpAny _ _ (Builtin.SmallTypes.ownedTupleHandOut (.ref z) (.ref g5.objs.size) >>= _) _ _ _; refine wpAny_bind ?_; unfold Builtin.SmallTypes.ownedTupleHandOut
  have z6 : IsZip (g5.push { cls := .type "tuple", data := .seq #[x, .str ⟨#[c]⟩ s.toks] }) z TI TO .ellipsis := Heap.get?_push_of_some _ z5
  refine wpAny_bind (wpAny_setField_rec z6 (by simp) fun g7 z7 s7 => ?_); replace z7 : IsZip g7 z TI TO (rawInt g5.objs.size) := z7
  refine wpAny_setField_rec z7 (by simp) fun g8 z8 s8 => ?_; replace z8 : IsZip g8 z TI TO (rawInt g5.objs.size) := z8
  have up : ∀ j o, j ≠ z → g5.get? j = some o → g8.get? j = some o := fun j o c1 e => s8.extBut _ _ c1 (s7.extBut _ _ c1 (Heap.get?_push_of_some _ e))
  have t8 : IsPair g8 g5.objs.size x (.str ⟨#[c]⟩ s.toks) := s8.extBut _ _ (Nat.ne_of_gt lz) (s7.extBut _ _ (Nat.ne_of_gt lz) (Heap.get?_push_size _ rfl))
  have e8 : g8.objs.size = g5.objs.size + 1 := by rw [s8.1, s7.1, Heap.size_push]
  rw [e5] at z8 t8 e8; refine wpAny_pure ⟨_, rfl, ?_⟩; show Q (.ref g5.objs.size) _; rw [e5]
  exact hQ g8 z8 (up _ _ D.TOz o5) (q1.at fun o e => up _ o D.i1z e) (siAt q2 fun o e => up _ o D.i2z e) t8 e8 fun j o c1 c2 c3 c4 e => up j o c1 (k5 j o c1 c2 c3 c4 e)
theorem itemH {Q : Value → Shared → Prop} (D : ZipApart z TI TO i1 i2 l l) (hz : IsZipHeld s.heap z TI TO T f) (hT : s.heap.get? T = some oT) (hTI : IsPair s.heap TI (.ref i1) (.ref i2)) (h1 : s.heap.IsListIter i1 l k) (h2 : s.heap.IsStrIter i2 Asc y t k) (hl : s.heap.IsList l xs) (hx : xs[k]? = some x) (hy : y.cps[k]? = some c)
    (hQ : ∀ h', IsZipHeld h' z TI TO T true → h'.IsListIter i1 l (k + 1) → h'.IsStrIter i2 Asc y t (k + 1) → IsPair h' s.heap.objs.size x (.str ⟨#[c]⟩ s.toks) → h'.objs.size = s.heap.objs.size + 1 →
      (∀ j o, j ≠ z → j ≠ i1 → j ≠ i2 → s.heap.get? j = some o → h'.get? j = some o) → Q (.ref s.heap.objs.size) { s with heap := h', toks := s.toks + 1 }) :
    wpAny (model prog w) A (Builtin.«zip.__next__» ⟨[.ref z], []⟩) (fun fin s' => ∃ v, fin = .done (.ret v) ∧ Q v s') E s := by
  show wpAny _ _ (field (.ref z) 2 >>= _) _ _ _; refine wpAny_bind (wpAny_field hz rfl (x := .bool false) rfl ?_)
  show wpAny _ _ (field (.ref z) 3 >>= _) _ _ _; refine wpAny_bind (wpAny_field hz rfl (x := .ref TI) rfl (wpAny_bind (wpAny_seqItems hTI rfl ?_)))
  show wpAny _ _ (Builtin.SmallTypes.ownedTupleIsFree (.ref z) >>= _) _ _ _; refine wpAny_bind (wpAny_tupleHeld_zip hz hT fun g1 z1 s1 => ?_)
  simp only [Bool.false_eq_true, if_false]; refine wpAny_bind ?_; rw [← Array.forIn_toList]; simp only [List.forIn_cons, List.forIn_nil]
  refine wpAny_bind (wpAny_bind (wpAny_holding ?_)); show wpAny _ _ (Builtin.SmallTypes.nextOf (.ref i1) >>= _) _ _ _
  refine wpAny_bind (wpAny_nextOf_list_item (s := { s with heap := g1 }) (h1.extBut s1.extBut D.i1z) (hl.extBut s1.extBut D.l1z) hx fun g2 p1 s2 => wpAny_pure (wpAny_pure (wpAny_bind (wpAny_bind (wpAny_holding ?_)))))
  show wpAny _ _ (Builtin.SmallTypes.nextOf (.ref i2) >>= _) _ _ _; refine wpAny_bind (wpAny_nextOf_ascii_item (s := { s with heap := g2 }) ((h2.extBut s1.extBut D.i2z).extBut s2.extBut D.i12.symm) hy fun g3 p2 s3 => wpAny_pure (wpAny_pure (wpAny_pure ?_)))
  show wpAny _ _ (newTuple [x, .str ⟨#[c]⟩ s.toks] >>= _) _ _ _; refine wpAny_bind (wpAny_newTuple ?_)
  have e3 : g3.objs.size = s.heap.objs.size := by rw [s3.1, s2.1, s1.1]
  have z3 : IsZipHeld g3 z TI TO T true := s3.extBut _ _ D.i2z.symm (s2.extBut _ _ D.i1z.symm z1)
  have k3 : ∀ j o, j ≠ z → j ≠ i1 → j ≠ i2 → s.heap.get? j = some o → g3.get? j = some o := fun j o c1 c2 c3 e => s3.extBut _ _ c3 (s2.extBut _ _ c2 (s1.extBut _ _ c1 e))
  have q1 : g3.IsListIter i1 l (k + 1) := p1.extBut s3.extBut D.i12
  refine wpAny_pure ⟨_, rfl, ?_⟩; show Q (.ref g3.objs.size) _
  have pp : IsPair (g3.push { cls := .type "tuple", data := .seq #[x, .str ⟨#[c]⟩ s.toks] }) g3.objs.size x (.str ⟨#[c]⟩ s.toks) := Heap.get?_push_size _ rfl
  have e4 : (g3.push { cls := .type "tuple", data := .seq #[x, .str ⟨#[c]⟩ s.toks] }).objs.size = g3.objs.size + 1 := Heap.size_push ..
  rw [e3] at pp e4 ⊢
  exact hQ _ (Heap.get?_push_of_some _ z3) (q1.at fun o e => Heap.get?_push_of_some _ e) (siAt p2 fun o e => Heap.get?_push_of_some _ e) pp e4 fun j o c1 c2 c3 e => Heap.get?_push_of_some _ (k3 j o c1 c2 c3 e)
end
end PySem.ZS

namespace PySem.ZS
open PySem PySem.W
section
variable {prog : Program} {w : World} {A : Around} {E : Value → Shared → Prop} {s : Shared} {z TI TO T i1 i2 l : Addr} {k : Nat} {xs : Array Value} {x a b : Value} {y : Str} {t : Tok} {c : Nat} {f : Bool} {oT : Obj}
theorem endF {Q : Fin → Shared → Prop} (hh : A.handled = none) (D : ZipApart z TI TO i1 i2 l l) (hz : IsZip s.heap z TI TO .none) (hTI : IsPair s.heap TI (.ref i1) (.ref i2)) (h1 : s.heap.IsListIter i1 l k) (hl : s.heap.IsList l xs) (hx : xs[k]? = none)
    (hE : ∀ h' e, (∀ j o, j ≠ z → j ≠ TO → j ≠ i1 → j ≠ i2 → s.heap.get? j = some o → h'.get? j = some o) → (∃ o, h'.get? e = some o ∧ o.cls = .type "StopIteration") → E (.ref e) { s with heap := h' }) :
    wpAny (model prog w) A (Builtin.«zip.__next__» ⟨[.ref z], []⟩) Q E s := by
  show wpAny _ _ (field (.ref z) 2 >>= _) _ _ _; refine wpAny_bind (wpAny_field hz rfl (x := .bool false) rfl ?_)
  show wpAny _ _ (field (.ref z) 3 >>= _) _ _ _; refine wpAny_bind (wpAny_field hz rfl (x := .ref TI) rfl (wpAny_bind (wpAny_seqItems hTI rfl ?_)))
  show wpAny _ _ (Builtin.SmallTypes.ownedTupleIsFree (.ref z) >>= _) _ _ _; refine wpAny_bind ?_; unfold Builtin.SmallTypes.ownedTupleIsFree
  refine wpAny_bind (wpAny_field hz rfl (x := .none) rfl (wpAny_pure ?_)); simp only [if_true]
  refine wpAny_bind (wpAny_rule (wpAny_bind (wpAny_field hz rfl (x := .ref TO) rfl (wpAny_bind (wpAny_setField_rec hz (by simp) fun g1 z1 s1 => ?_)))))
  replace z1 : IsZip g1 z TI TO .ellipsis := z1
  refine wpAny_bind ?_; simp only [List.zipIdx_cons, List.zipIdx_nil, List.forIn_cons, List.forIn_nil]
  refine wpAny_bind (wpAny_bind (wpAny_onRaise ?_)); show wpAny _ _ (Builtin.SmallTypes.nextOf (.ref i1) >>= _) _ _ _
  refine wpAny_bind (wpAny_nextOf_list_end hh (h1.extBut s1.extBut D.i1z) (hl.extBut s1.extBut D.l1z) hx fun g2 e s2 ⟨oe, he, hc⟩ => ?_)
  have z2 : IsZip g2 z TI TO .ellipsis := s2 _ _ D.i1z.symm z1
  have ez : e ≠ z := fun q => by subst q; rw [z2] at he; cases he; simp at hc
  exact wpAny_setField_rec z2 (by simp) fun g3 _ s3 => hE g3 e (fun j o c1 _ c3 _ q => s3.extBut _ _ c1 (s2 _ _ c3 (s1.extBut _ _ c1 q))) ⟨oe, s3.extBut _ _ ez he, hc⟩
theorem endH {Q : Fin → Shared → Prop} (hh : A.handled = none) (D : ZipApart z TI TO i1 i2 l l) (hz : IsZipHeld s.heap z TI TO T f) (hT : s.heap.get? T = some oT) (hTI : IsPair s.heap TI (.ref i1) (.ref i2)) (h1 : s.heap.IsListIter i1 l k) (hl : s.heap.IsList l xs) (hx : xs[k]? = none)
    (hE : ∀ h' e, (∀ j o, j ≠ z → j ≠ i1 → j ≠ i2 → s.heap.get? j = some o → h'.get? j = some o) → (∃ o, h'.get? e = some o ∧ o.cls = .type "StopIteration") → E (.ref e) { s with heap := h' }) :
    wpAny (model prog w) A (Builtin.«zip.__next__» ⟨[.ref z], []⟩) Q E s := by
  show wpAny _ _ (field (.ref z) 2 >>= _) _ _ _; refine wpAny_bind (wpAny_field hz rfl (x := .bool false) rfl ?_)
  show wpAny _ _ (field (.ref z) 3 >>= _) _ _ _; refine wpAny_bind (wpAny_field hz rfl (x := .ref TI) rfl (wpAny_bind (wpAny_seqItems hTI rfl ?_)))
  show wpAny _ _ (Builtin.SmallTypes.ownedTupleIsFree (.ref z) >>= _) _ _ _; refine wpAny_bind (wpAny_tupleHeld_zip hz hT fun g1 z1 s1 => ?_)
  simp only [Bool.false_eq_true, if_false]; refine wpAny_bind ?_; rw [← Array.forIn_toList]; simp only [List.forIn_cons, List.forIn_nil]
  refine wpAny_bind (wpAny_bind (wpAny_holding ?_)); show wpAny _ _ (Builtin.SmallTypes.nextOf (.ref i1) >>= _) _ _ _
  refine wpAny_bind (wpAny_nextOf_list_end (s := { s with heap := g1 }) hh (h1.extBut s1.extBut D.i1z) (hl.extBut s1.extBut D.l1z) hx fun g2 e s2 he => ?_)
  exact hE g2 e (fun j o c1 c2 _ q => s2 _ _ c2 (s1.extBut _ _ c1 q)) he
theorem nextF {Q : Option Value → Shared → Prop} (D : ZipApart z TI TO i1 i2 l l) (hz : IsZip s.heap z TI TO .none) (hTI : IsPair s.heap TI (.ref i1) (.ref i2)) (hTO : IsPair s.heap TO a b) (h1 : s.heap.IsListIter i1 l k) (h2 : s.heap.IsStrIter i2 Asc y t k) (hl : s.heap.IsList l xs) (hx : xs[k]? = some x) (hy : y.cps[k]? = some c)
    (hQ : ∀ h', IsZip h' z TI TO (rawInt s.heap.objs.size) → IsPair h' TO x (.str ⟨#[c]⟩ s.toks) → h'.IsListIter i1 l (k + 1) → h'.IsStrIter i2 Asc y t (k + 1) → IsPair h' s.heap.objs.size x (.str ⟨#[c]⟩ s.toks) → h'.objs.size = s.heap.objs.size + 1 →
      (∀ j o, j ≠ z → j ≠ TO → j ≠ i1 → j ≠ i2 → s.heap.get? j = some o → h'.get? j = some o) → Q (some (.ref s.heap.objs.size)) { s with heap := h', toks := s.toks + 1 }) : wpAny (model prog w) A (pyNext (.ref z)) Q E s := by
  have ty : s.TypeIs (.ref z) "zip" := ⟨_, hz, rfl⟩
  unfold pyNext; exact wpAny_bind (wpAny_attempt (wpAny_callSpecial?_slot (name := Str.ofString "__next__") ty F.slot_zip_next (wpAny_call_entry F.slot_zip_next ty F.entry_zip_next (itemF D hz hTI hTO h1 h2 hl hx hy fun h' a1 a2 a3 a4 a5 a6 a7 => wpAny_pure (hQ h' a1 a2 a3 a4 a5 a6 a7)) (F.args_zip_next_1 _))))
theorem nextH {Q : Option Value → Shared → Prop} (D : ZipApart z TI TO i1 i2 l l) (hz : IsZipHeld s.heap z TI TO T f) (hT : s.heap.get? T = some oT) (hTI : IsPair s.heap TI (.ref i1) (.ref i2)) (h1 : s.heap.IsListIter i1 l k) (h2 : s.heap.IsStrIter i2 Asc y t k) (hl : s.heap.IsList l xs) (hx : xs[k]? = some x) (hy : y.cps[k]? = some c)
    (hQ : ∀ h', IsZipHeld h' z TI TO T true → h'.IsListIter i1 l (k + 1) → h'.IsStrIter i2 Asc y t (k + 1) → IsPair h' s.heap.objs.size x (.str ⟨#[c]⟩ s.toks) → h'.objs.size = s.heap.objs.size + 1 →
      (∀ j o, j ≠ z → j ≠ i1 → j ≠ i2 → s.heap.get? j = some o → h'.get? j = some o) → Q (some (.ref s.heap.objs.size)) { s with heap := h', toks := s.toks + 1 }) : wpAny (model prog w) A (pyNext (.ref z)) Q E s := by
  have ty : s.TypeIs (.ref z) "zip" := ⟨_, hz, rfl⟩
  unfold pyNext; exact wpAny_bind (wpAny_attempt (wpAny_callSpecial?_slot (name := Str.ofString "__next__") ty F.slot_zip_next (wpAny_call_entry F.slot_zip_next ty F.entry_zip_next (itemH D hz hT hTI h1 h2 hl hx hy fun h' a1 a3 a4 a5 a6 a7 => wpAny_pure (hQ h' a1 a3 a4 a5 a6 a7)) (F.args_zip_next_1 _))))
theorem stopF {Q : Option Value → Shared → Prop} (hh : A.handled = none) (D : ZipApart z TI TO i1 i2 l l) (hz : IsZip s.heap z TI TO .none) (hTI : IsPair s.heap TI (.ref i1) (.ref i2)) (h1 : s.heap.IsListIter i1 l k) (hl : s.heap.IsList l xs) (hx : xs[k]? = none)
    (hQ : ∀ h', (∀ j o, j ≠ z → j ≠ TO → j ≠ i1 → j ≠ i2 → s.heap.get? j = some o → h'.get? j = some o) → Q none { s with heap := h' }) : wpAny (model prog w) A (pyNext (.ref z)) Q E s := by
  have ty : s.TypeIs (.ref z) "zip" := ⟨_, hz, rfl⟩
  unfold pyNext; refine wpAny_bind (wpAny_attempt (wpAny_callSpecial?_slot (name := Str.ofString "__next__") ty F.slot_zip_next (wpAny_call_entry F.slot_zip_next ty F.entry_zip_next (endF hh D hz hTI h1 hl hx fun h' e hk he => ?_) (F.args_zip_next_1 _))))
  obtain ⟨o, ho, hc⟩ := he; exact wpAny_bind (wpAny_isInstance (T := "StopIteration") (b := true) ⟨o, ho, hc⟩ isSubtype_stop (wpAny_pure (hQ _ hk)))
theorem stopH {Q : Option Value → Shared → Prop} (hh : A.handled = none) (D : ZipApart z TI TO i1 i2 l l) (hz : IsZipHeld s.heap z TI TO T f) (hT : s.heap.get? T = some oT) (hTI : IsPair s.heap TI (.ref i1) (.ref i2)) (h1 : s.heap.IsListIter i1 l k) (hl : s.heap.IsList l xs) (hx : xs[k]? = none)
    (hQ : ∀ h', (∀ j o, j ≠ z → j ≠ i1 → j ≠ i2 → s.heap.get? j = some o → h'.get? j = some o) → Q none { s with heap := h' }) : wpAny (model prog w) A (pyNext (.ref z)) Q E s := by
  have ty : s.TypeIs (.ref z) "zip" := ⟨_, hz, rfl⟩
  unfold pyNext; refine wpAny_bind (wpAny_attempt (wpAny_callSpecial?_slot (name := Str.ofString "__next__") ty F.slot_zip_next (wpAny_call_entry F.slot_zip_next ty F.entry_zip_next (endH hh D hz hT hTI h1 hl hx fun h' e hk he => ?_) (F.args_zip_next_1 _))))
  obtain ⟨o, ho, hc⟩ := he; exact wpAny_bind (wpAny_isInstance (T := "StopIteration") (b := true) ⟨o, ho, hc⟩ isSubtype_stop (wpAny_pure (hQ _ hk)))
end
section
variable {prog : Program} {w : World}
/-- zip(list, text) as what a dict is made of -/
theorem arg (z TI TO i1 i2 l : Addr) (D : ZipApart z TI TO i1 i2 l l) (xs : Array Value) (y : Str) (t : Tok) (hn : xs.size ≤ y.cps.size) :
    PairArg prog w "zip" z [z, TI, TO, i1, i2, l] [z, TO, i1, i2] xs.size (fun i k v => xs[i]? = some k ∧ ∃ c u, y.cps[i]? = some c ∧ v = .str ⟨#[c]⟩ u)
      (fun h => IsZip h z TI TO .none ∧ IsPair h TI (.ref i1) (.ref i2) ∧ (∃ a b, IsPair h TO a b) ∧ h.IsListIter i1 l 0 ∧ h.IsStrIter i2 Asc y t 0 ∧ h.IsList l xs) where
  type := fun s ok => ⟨_, ok.1, rfl⟩
  notDict := by decide
  keep := fun h h' ⟨a1, a2, ⟨a, b, a3⟩, a4, a5, a6⟩ hk => ⟨hk _ _ a1, hk _ _ a2, ⟨a, b, hk _ _ a3⟩, a4.at fun o e => hk _ o e, siAt a5 fun o e => hk _ o e, a6.at fun o e => hk _ o e⟩
  there := fun h ⟨a1, a2, ⟨a, c, a3⟩, ⟨o1, a4, _⟩, ⟨o2, a5, _⟩, ⟨o3, a6, _⟩⟩ b hb => by
    simp only [List.mem_cons, List.not_mem_nil, or_false] at hb
    rcases hb with rfl | rfl | rfl | rfl | rfl | rfl; all_goals first | exact ⟨_, a1⟩ | exact ⟨_, a2⟩ | exact ⟨_, a3⟩ | exact ⟨_, a4⟩ | exact ⟨_, a5⟩ | exact ⟨_, a6⟩
  sub := fun b hb => by simp at hb ⊢; rcases hb with rfl | rfl | rfl | rfl <;> simp
  noKeys := fun A s Q E hA ok h => getAttrOr_miss_zip ok.1 rfl rfl rfl zip_no_keys (by decide +kernel) hA h
  iter := fun A s d Q E hA ⟨hz, hTI, ⟨a, b, hTO⟩, h1, h2, hl⟩ hd hdf h => by
    simp only [List.mem_cons, List.not_mem_nil, or_false, not_or] at hdf
    obtain ⟨dz, dTI, dTO, di1, di2, dl⟩ := hdf
    refine wpAny_pyIter_zip hz (h z [z, TO, i1, i2] (fun i h => IsPair h TI (.ref i1) (.ref i2) ∧ h.IsListIter i1 l i ∧ h.IsStrIter i2 Asc y t i ∧ h.IsList l xs ∧
      ((IsZip h z TI TO .none ∧ ∃ a b, IsPair h TO a b) ∨ ∃ T f oT, IsZipHeld h z TI TO T f ∧ h.get? T = some oT ∧ T ≠ z ∧ T ≠ i1 ∧ T ≠ i2 ∧ T ≠ d)) s.heap s.toks ?_ ⟨hTI, h1, h2, hl, .inl ⟨hz, a, b, hTO⟩⟩ (fun _ _ e => e) fun b hb => .inl hb)
    exact {
      off := fun hm => by
        simp only [List.mem_cons, List.not_mem_nil, or_false] at hm
        rcases hm with e | e | e | e <;> first | exact dz e | exact dTO e | exact di1 e | exact di2 e
      frame := fun i g1 g2 ⟨a1, a2, a3, a4, a5⟩ hk => by
        refine ⟨hk _ _ (Ne.symm dTI) a1, a2.at fun o e => hk _ o (Ne.symm di1) e, siAt a3 fun o e => hk _ o (Ne.symm di2) e, a4.at fun o e => hk _ o (Ne.symm dl) e, ?_⟩
        rcases a5 with ⟨a5, a, b, a6⟩ | ⟨T, f, oT, a5, hT, r1, r2, r3, r4⟩
        · exact .inl ⟨hk _ _ (Ne.symm dz) a5, a, b, hk _ _ (Ne.symm dTO) a6⟩
        · exact .inr ⟨T, f, oT, hk _ _ (Ne.symm dz) a5, hk _ _ r4 hT, r1, r2, r3, r4⟩
      item := fun i s₁ Q₁ E₁ hi ⟨a1, a2, a3, a4, a5⟩ hds hQ => by
        have ex := Array.getElem?_eq_getElem hi
        have ey := Array.getElem?_eq_getElem (Nat.lt_of_lt_of_le hi hn)
        have lt : ∀ {c o}, s₁.heap.get? c = some o → s₁.heap.objs.size ≠ c := fun e => Nat.ne_of_gt (Heap.lt_size e)
        have n1 : s₁.heap.objs.size ≠ i1 := let ⟨_, e, _⟩ := a2; lt e
        have n2 : s₁.heap.objs.size ≠ i2 := let ⟨_, e, _⟩ := a3; lt e
        rcases a5 with ⟨a5, a, b, a6⟩ | ⟨T, f, oT, a5, hT, r1, r2, r3, r4⟩
        · refine nextF D a5 a1 a6 a2 a3 a4 ex ey fun h' c1 c2 c3 c4 c5 c6 hk => ?_
          exact hQ s₁.heap.objs.size _ _ h' _ ⟨ex, _, _, ey, rfl⟩ (.inl ⟨_, c5, rfl, _, rfl⟩)
            ⟨hk _ _ D.TIz D.TITO D.TIi1 D.TIi2 a1, c3, c4, a4.at fun o e => hk _ o D.l1z D.l1TO D.l1i1 D.l1i2 e, .inr ⟨s₁.heap.objs.size, false, _, c1, c5, lt a5, n1, n2, Nat.ne_of_gt hds⟩⟩
            fun c o hc e => hk c o (fun x => hc (by simp [x])) (fun x => hc (by simp [x])) (fun x => hc (by simp [x])) (fun x => hc (by simp [x])) e
        · refine nextH D a5 hT a1 a2 a3 a4 ex ey fun h' c1 c3 c4 c5 c6 hk => ?_
          exact hQ s₁.heap.objs.size _ _ h' _ ⟨ex, _, _, ey, rfl⟩ (.inl ⟨_, c5, rfl, _, rfl⟩)
            ⟨hk _ _ D.TIz D.TIi1 D.TIi2 a1, c3, c4, a4.at fun o e => hk _ o D.l1z D.l1i1 D.l1i2 e, .inr ⟨T, true, oT, c1, hk _ _ r1 r2 r3 hT, r1, r2, r3, r4⟩⟩
            fun c o hc e => hk c o (fun x => hc (by simp [x])) (fun x => hc (by simp [x])) (fun x => hc (by simp [x])) e
      done := fun s₁ Q₁ E₁ ⟨a1, a2, a3, a4, a5⟩ hQ => by
        have hx : xs[xs.size]? = none := Array.getElem?_eq_none (Nat.le_refl _)
        rcases a5 with ⟨a5, a, b, a6⟩ | ⟨T, f, oT, a5, hT, r1, r2, r3, r4⟩
        · exact stopF hA D a5 a1 a2 a4 hx fun h' hk => hQ h' s₁.toks fun c o hc e => hk c o (fun x => hc (by simp [x])) (fun x => hc (by simp [x])) (fun x => hc (by simp [x])) (fun x => hc (by simp [x])) e
        · exact stopH hA D a5 hT a1 a2 a4 hx fun h' hk => hQ h' s₁.toks fun c o hc e => hk c o (fun x => hc (by simp [x])) (fun x => hc (by simp [x])) (fun x => hc (by simp [x])) e }
end
end PySem.ZS

namespace L2
open PySem PySem.Spec PyProof.Rows
section
variable {prog : Program} {w : World} {A : Around} {E : Value → Shared → Prop} {s : Shared}
theorem mergeK_step {kvs : List (Key × V)} {i : Nat} {k : Key} {y : V} (h : kvs[i]? = some (k, y)) : mergeK [] (kvs.take (i + 1)) = mergeK (mergeK [] (kvs.take i)) [(k, y)] := by
  unfold mergeK
  rw [List.take_add_one, h, List.foldl_append]; rfl
theorem call_dictZ {T : String} {a : Addr} {fp wr : List Addr} {n : Nat} {Rel : Nat → Value → Value → Prop} {OK : Heap → Prop} {kvs : List (Key × V)} {Q : Value → Shared → Prop} (P : PairArg prog w T a fp wr n Rel OK) (hh : A.handled = none) (ok : OK s.heap) (hl : kvs.length = n)
    (hc : ∀ i key v, Rel i key v → ∃ k y, kvs[i]? = some (k, y) ∧ (mixKind prog w).is k key = true ∧ RelV y v) (hsz : n ≤ sizeLine)
    (h : ∀ h' tk vs, KV (mergeK [] kvs) vs → h'.DictOf (mixKind prog w) s.heap.objs.size vs → (∀ b o, b ∉ wr → s.heap.get? b = some o → h'.get? b = some o) → Q (.ref s.heap.objs.size) { s with heap := h', toks := tk }) :
    wpAny (model prog w) A (call (.type "dict") [.ref a]) Q E s := by
  refine call_dict_arg P ok fun s₁ hs₁ hdf ok₁ => ?_
  subst hs₁
  refine updateFrom_arg (A := A.in1) (Tab := fun i h => ∃ vs, KV (mergeK [] (kvs.take i)) vs ∧ h.DictOf (mixKind prog w) s.heap.objs.size vs) P .none hh ok₁ hdf ⟨[], .nil, Heap.DictOf.new s.heap⟩ (fun _ _ ⟨_, _, tb⟩ => tb.lt_size) (fun i h h' wr' hd _ ⟨vs, r, tb⟩ hk => ⟨vs, r, tb.at' fun o e => hk _ o hd e⟩) ?_ ?_
  · intro i key v s' Q E' hi hrel tb0 _ hQ
    obtain ⟨vs, r, tb⟩ := tb0
    obtain ⟨k, y, hk, his, ry⟩ := hc i key v hrel
    have len : vs.length ≤ i := by
      rw [← r.length]
      refine Nat.le_trans (length_mergeK (kvs.take i) []) ?_
      rw [List.length_nil, List.length_take]; omega
    refine wpAny_dictSet_pairs (hsz := by omega) his tb fun h' hm' hs => ?_
    refine hQ h' _ ⟨_, ?_, hm'⟩ hs
    rw [mergeK_step hk]
    exact KV.merge (more := [(k, y)]) (rs := [(k, v)]) (.cons ⟨rfl, ry⟩ .nil) r
  · rintro h' tk ⟨vs, r, tb⟩ hk
    rw [List.take_of_length_le (Nat.le_of_eq hl)] at r
    exact ⟨rfl, h h' tk vs r tb fun b o hw e => hk b o (Nat.ne_of_lt (Heap.lt_size e)) hw (Heap.get?_push_of_some _ e)⟩
end
end L2

namespace L2
open PySem PySem.Spec PyProof.Rows
def zipKV (ks : List Str) (y : Str) : List (Key × V) := (ks.zip y.cps.toList).map fun p => (Sum.inr p.1, V.str ⟨#[p.2]⟩)
def tDictZip (K : PySem.W.Frag) (ta tb : TE) : TE := fun σ H Q => ta σ H fun x H1 => tb σ H1 fun u H2 => ∃ (l : Addr) (ks : List Str) (y : Str), x = .ref l ∧ u = .str y ∧ SqL K H2 l (ks.map V.str) ∧ ks.length = y.cps.size ∧ y.cps.all (· < 128) = true ∧ ∀ p, H2 p = none → Q (.ref p) (upd H2 p (.dK (mergeK [] (zipKV ks y))))
section
variable {X : Cx} {pins : List (Addr × Obj)} {σ : St}
/-- what stands behind zip(list, text) -/
def Zipped (X : Cx) (pins : List (Addr × Obj)) (σ : St) (l : Addr) (its : List Value) (y : Str) (H2 : Hp) (v : Value) (s1 : Shared) : Prop :=
  ∃ (s2 : Shared) (h1 : Heap) (t : Tok), v = .ref (s2.heap.objs.size + 4) ∧ s1 = { s2 with heap := h1 } ∧ Inv X pins σ H2 s2 ∧ l < s2.heap.objs.size ∧ IsZip h1 (s2.heap.objs.size + 4) (s2.heap.objs.size + 2) (s2.heap.objs.size + 3) .none ∧ IsPair h1 (s2.heap.objs.size + 2) (.ref s2.heap.objs.size) (.ref (s2.heap.objs.size + 1)) ∧ IsPair h1 (s2.heap.objs.size + 3) .none .none ∧
    h1.IsListIter s2.heap.objs.size l 0 ∧ h1.IsStrIter (s2.heap.objs.size + 1) ZS.Asc y t 0 ∧ h1.IsList l its.toArray ∧ h1.objs.size = s2.heap.objs.size + 5 ∧ (∀ c o, s2.heap.get? c = some o → h1.get? c = some o)
theorem zip_keys {ks : List Str} {its : List Value} {y : Str} (r : Vals (ks.map V.str) its) {P : Program} {w : World} {i : Nat} {key v : Value} (h : its.toArray[i]? = some key ∧ ∃ c u, y.cps[i]? = some c ∧ v = Value.str ⟨#[c]⟩ u) :
    ∃ k z, (zipKV ks y)[i]? = some (k, z) ∧ (mixKind P w).is k key = true ∧ RelV z v := by
  obtain ⟨hk, c, u, hc, rfl⟩ := h
  rw [List.getElem?_toArray] at hk
  have hi : i < its.length := (List.getElem?_eq_some_iff.mp hk).1
  have hi2 : i < ks.length := by rw [← r.length, List.length_map] at hi; exact hi
  have e1 : (ks.map V.str)[i]? = some (V.str ks[i]) := by rw [List.getElem?_map, List.getElem?_eq_getElem hi2]; rfl
  have rk : RelV (V.str ks[i]) key := by
    obtain ⟨u', a1, a2⟩ := r.get e1
    rw [hk] at a1; cases a1; exact a2
  obtain ⟨t, rfl⟩ := rk
  refine ⟨.inr ks[i], .str ⟨#[c]⟩, ?_, ?_, ⟨u, rfl⟩⟩
  · unfold zipKV
    have e2 : y.cps.toList[i]? = some c := by rw [Array.getElem?_toList]; exact hc
    have e3 : (ks.zip y.cps.toList)[i]? = some (ks[i], c) := List.getElem?_zip_eq_some.mpr ⟨List.getElem?_eq_getElem hi2, e2⟩
    rw [List.getElem?_map, e3]; rfl
  · show Value.isStrOf ks[i] (.str ks[i] t) = true
    simp [Value.isStrOf]
theorem pe_dictZip {a b : Expr} {ta tb : TE} {p1 p2 pos1 pos2 : Pos} (hc : X.calm = true) (hgd : Gl X "dict") (hmd : X.mg "dict" = none) (hgz : Gl X "zip") (hmz : X.mg "zip" = none) (ha : PE X a ta) (hb : PE X b tb)
    (na : starEach [a, b] X.env = (false, eval a X.env) :: starEach [b] X.env := by rfl) (nb : starEach [b] X.env = (false, eval b X.env) :: starEach [] X.env := by rfl) (hp : (backTo pos2 (starEach [b] X.env)).any (·.1) = false := by rfl)
    (nz : starEach [.Call (.Name "zip" p2) [a, b] [] pos2] X.env = (false, eval (.Call (.Name "zip" p2) [a, b] [] pos2) X.env) :: starEach [] X.env := by rfl) :
    PE X (.Call (.Name "dict" p1) [.Call (.Name "zip" p2) [a, b] [] pos2] [] pos1) (tDictZip X.K ta tb) := by
  refine ⟨fun pins s σ H Q I h => ?_⟩
  have hz : wpAny (model X.prog X.w) X.A (eval (.Call (.Name "zip" p2) [a, b] [] pos2) X.env) (fun v s1 => ∃ (l : Addr) (its : List Value) (ks : List Str) (y : Str) (H2 : Hp), Zipped X pins σ l its y H2 v s1 ∧ Vals (ks.map V.str) its ∧ ks.length ≤ sizeLine ∧ ks.length = y.cps.size ∧ ∀ p, H2 p = none → Q (.ref p) (upd H2 p (.dK (mergeK [] (zipKV ks y))))) X.xe s := by
    refine Call_ (ld_blt I hgz hmz boot_zip (PyProof.Rows.callWith_type1 (args_cons (thn (ha.run pins s σ H _ I h) fun v s1 ⟨x, H1, I1, r1, q1⟩ => one_arg hb I1 q1 (fun u s2 z H2 I2 r2 q => ?_) nb) na) na hp))
    obtain ⟨l, ks, y, rfl, rfl, hq, hl, asc, q⟩ := q
    obtain rfl : v = .ref l := r1
    obtain ⟨t, rfl⟩ := r2
    obtain ⟨its, rv, pl, hsz⟩ := I2.list hq
    refine ZS.call pl.isList fun h1 a1 a2 a3 a4 a5 a6 a7 => ?_
    have e : strIterType y = ZS.Asc := by unfold strIterType; rw [if_pos asc]
    rw [e] at a5
    exact ⟨l, its, ks, y, H2, ⟨s2, h1, t, rfl, rfl, I2, pl.lt, a1, a2, a3, a4, a5, pl.isList.at fun o e => a7 _ o e, a6, a7⟩, rv, by simpa using hsz, hl, q⟩
  refine Call_ (ld_blt I hgd hmd boot_dict (PyProof.Rows.callWith_type1 (args_cons (thn hz fun x s1 ⟨l, its, ks, y, H2, ⟨s2, h1, t, ev, es, I2, ll, a1, a2, a3, a4, a5, al, a6, a7⟩, rv, hsz, hl, q⟩ => args_nil ?_) nz) nz))
  subst ev es
  have hk0 : (zipKV ks y).length = ks.length := by unfold zipKV; rw [List.length_map, List.length_zip, show y.cps.toList.length = y.cps.size by simp, hl, Nat.min_self]
  have len : its.length = ks.length := by rw [← rv.length, List.length_map]
  refine call_dictZ (kvs := zipKV ks y) (n := its.toArray.size) (ZS.arg (prog := X.prog) (w := X.w) (s2.heap.objs.size + 4) (s2.heap.objs.size + 2) (s2.heap.objs.size + 3) s2.heap.objs.size (s2.heap.objs.size + 1) l (PySem.W.ktu_apart s2.heap.objs.size l l ll ll) its.toArray y t (by simp; omega)) (I2.ok.hd hc) ⟨a1, a2, ⟨_, _, a3⟩, a4, a5, al⟩ (by rw [hk0, ← len]; simp) (fun i key v hr => zip_keys rv hr) (by simp; omega) fun h' tk vs kv hd hk => ?_
  have hbig : (h1.objs.size == sysModules) = false := beq_eq_false_iff_ne.mpr (by rw [a6]; exact Nat.ne_of_gt (Nat.lt_of_lt_of_le I2.big (Nat.le_add_right _ _)))
  have keep : ∀ b o, s2.heap.get? b = some o → h'.get? b = some o := fun b o e => hk b o (fun hm => by
    have lt := Heap.lt_size e
    simp only [List.mem_cons, List.not_mem_nil, or_false] at hm
    rcases hm with rfl | rfl | rfl | rfl
    · exact Nat.not_lt_of_le (Nat.le_add_right _ _) lt
    · exact Nat.not_lt_of_le (Nat.le_add_right _ _) lt
    · exact Nat.lt_irrefl _ lt
    · exact Nat.not_lt_of_le (Nat.le_add_right _ _) lt) (a7 b o e)
  refine ⟨.ref h1.objs.size, upd H2 h1.objs.size (.dK (mergeK [] (zipKV ks y))), I2.laid (t' := tk) keep (by rw [a6]; omega) (show ObjOk X.prog X.w _ _ _ (.dK (mergeK [] (zipKV ks y))) from ⟨?_, hbig, vs, kv, hd⟩), rfl, q _ (I2.hok.fresh (by rw [a6]; omega))⟩
  refine Nat.le_trans (length_mergeK _ []) ?_
  rw [List.length_nil, Nat.zero_add, hk0]; exact hsz
end
end L2

namespace VL
open PySem L2
variable [EC]
def dzipL : List (List Nat) → List Nat → List (D × D) → List (D × D)
  | k :: ks, c :: cs, acc => dzipL ks cs (storeD acc (.str k) (.str [c]))
  | _, _, acc => acc
def dzipD (a b : D) : Option (List (D × D)) := match a, b with
  | .lst l, .str y => match strsD l with
    | some ks => if ks.length = y.length ∧ y.all (fun c => decide (c < 128)) = true then some (dzipL ks y []) else none
    | none => none
  | _, _ => none
theorem repK_zip {G : Hp} : ∀ (ks : List (List Nat)) (cs : List Nat) {acc : List (D × D)} {kvs : List (Key × V)}, RepK G acc kvs → RepK G (dzipL ks cs acc) (mergeK kvs (((ks.map mkS).zip cs).map fun p => (Sum.inr p.1, V.str ⟨#[p.2]⟩)))
  | [], cs, acc, kvs, h => by cases cs <;> exact h
  | k :: ks, [], acc, kvs, h => h
  | k :: ks, c :: cs, acc, kvs, h => by
    have h1 : RepK G (storeD acc (.str k) (.str [c])) (putK kvs (.inr (mkS k)) (.str ⟨#[c]⟩)) := repK_store (kk := .inr (mkS k)) (d := .str k) (c := .str [c]) (by simp [kD, mkS]) rfl h
    exact repK_zip ks cs h1
section
variable {R : Type} {F : Fc} {tmp : Tmp} {s : State} {m : Res R} {K : Rs R} {N : Rn R} {Rt : Rr R} {ta tb : TE} {Kf : PySem.W.Frag}
theorem rd_dzip (h : RD F tmp s ta m (fun tm1 s1 m1 => ∀ x, RD F ((x, tm1) :: tmp) s1 tb m1 (fun tm2 s2 m2 => ∃ a b k, valS s2 tm1 = some a ∧ valS s2 tm2 = some b ∧ m2 = ob (dzipD a b) k ∧ ∀ c, K (.own (.dc false c)) s2 (k c)))) : RD F tmp s (tDictZip Kf ta tb) m K := fun σ H Q hh nf eo q =>
  h σ H _ hh nf eo fun tm1 s1 x H1 h2 h1 => h2 x σ H1 _ h1 nf eo fun tm2 s2 u H2 ⟨a, b, k, ea, eb, em, hk⟩ h3 => by
    obtain ⟨c, ec, em'⟩ := ob_cases (by rw [← em]; exact nf)
    obtain ⟨G, ω, h3⟩ := h3
    have ra := h3.repC h3.tm.2.1 ea
    have rb := h3.repC h3.tm.1 eb
    cases a <;> try (cases ec; done)
    cases b <;> try (cases ec; done)
    rename_i l y
    simp only [dzipD] at ec
    cases es : strsD l with
    | none => rw [es] at ec; cases ec
    | some ks =>
      rw [es] at ec
      dsimp only at ec
      split at ec
      · cases ec
        rename_i hy
        obtain ⟨p, vs, e1, rd, z, r⟩ := ra
        have ev := strs_ok es r
        subst ev
        refine ⟨p, ks.map mkS, mkS y, e1, rb, .inl rd, ?_, ?_, fun p2 np => ?_⟩
        · rw [List.length_map, hy.1]; simp [mkS]
        · rw [← Array.all_toList, mkS_cps]; exact hy.2
        · refine q (.own (.dc false (dzipL ks y []))) s2 _ _ (by rw [em, em']; exact hk _) ⟨G, _, h3.pop.pop.newO np ⟨p2, _, rfl, by simp, upd_same, ?_⟩⟩
          have := repK_zip (G := G) ks y (acc := []) (kvs := []) rfl
          unfold zipKV
          rw [mkS_cps]; exact this
      · cases ec
end
end VL

namespace VL
open PySem L2
variable [EC]
section
variable {R : Type} {F : Fc} {tmp : Tmp} {s : State} {m : Res R} {K : Rs R} {N : Rn R} {Rt : Rr R} {ta tb te to ti : TE} {Kf : PySem.W.Frag}
/-- x[n], a told thing of an owned list -/
theorem rd_ixO {i n : Nat} {ts : List T} {d : D} (hs : s[i]? = some (some (.ll ts))) (hn : ts[n]? = some (.f d)) (k : K (.own (.f d)) s m) : RD F tmp s (tOp (rIxA Kf) (tVar i) (tC (.int (n : Nat)))) m K := fun σ H Q hh nf eo q => by
  obtain ⟨G, ω, h⟩ := hh
  obtain ⟨v, e, a, vs, e2, ha, hw, z, r⟩ := h.sl i _ hs
  subst e2
  obtain ⟨w, w1, w2⟩ := r.get hn
  exact ⟨_, e, .inl ⟨a, vs, (n : Nat), w, rfl, rfl, .inl (.inl ha), by rw [atI_n]; exact w1, q _ _ w H k ⟨G, ω, h.pushF w2⟩⟩⟩
/-- x[n] = e -/
theorem rs_setO {i n : Nat} (h : RD F tmp s te m (fun tm1 s1 m1 => ∃ t ts, tm1 = .own t ∧ s1[i]? = some (some (.ll ts)) ∧ n < ts.length ∧ N (s1.set i (some (.ll (ts.set n t)))) m1)) : RS F tmp s m (tAsg te (gSub (tVar i) (tC (.int (n : Nat))) rSetL)) N Rt := fun σ H De hh nf eo nx rt =>
  h σ H _ hh nf eo fun tm1 s1 y H2 ⟨t, ts, e2, hi, hlt, hk⟩ h4 => by
    subst e2
    obtain ⟨G, ω, h4⟩ := h4
    obtain ⟨v, e1, a, vs', e2, ha', hw, z, r⟩ := h4.sl i _ hi
    subst e2
    have hil : i < s1.length := (List.getElem?_eq_some_iff.mp hi).1
    refine ⟨.ref a, e1, a, vs', (n : Nat), n, rfl, rfl, ha', ixN_n (by rw [← r.len]; exact hlt), ?_⟩
    have h5 : Hd F G (rl ω (phiIn tmp.length i n)) tmp (s1.set i none) σ H2 := h4.rl _ _ σ tmp (by simp [h4.len]) (fun k u e => by
      by_cases hk : i = k
      · subst hk; rw [List.getElem?_set_self hil] at e; cases e
      · rw [List.getElem?_set_ne hk] at e
        obtain ⟨v', b1, b2⟩ := h4.sl k u e
        have hk' : ¬ k = i := fun z => hk z.symm
        refine ⟨v', b1, Own.rl b2 fun x => ?_⟩
        cases x <;> simp [phiIn, hk']) (Tms.rl tmp (fun j x hj => by
        have : ¬ j = tmp.length := by omega
        simp [phiIn, this]) h4.tm.2) h4.pn
    have hw5 : (rl ω (phiIn tmp.length i n)) a = some [0, i] := rl_of hw rfl
    have hwr : ∀ {q : Lab} {t v o}, pre q [0, i] = false → Own G H2 (rl ω (phiIn tmp.length i n)) q t v → Own G (upd H2 a o) (rl ω (phiIn tmp.length i n)) q t v := fun n o => Own.wrO hw5 n o
    refine nx _ σ _ hk ⟨G, _, h5.wr hw5 _ (by simp) (fun k u e => ?_) (Tms.wrO hw5 tmp (fun j hj => by simp [pre]) h5.tm)⟩
    by_cases hk : i = k
    · subst hk
      rw [List.getElem?_set_self hil] at e
      cases e
      refine ⟨_, e1, a, vs'.set n y, rfl, upd_same, hw5, by simpa using z, Owns.of (by simp [r.len]) fun j t' v' a1 a2 => ?_⟩
      rw [Nat.zero_add]
      refine hwr (by simp [pre]) ?_
      rw [List.getElem?_set] at a1 a2
      by_cases hj : n = j
      · subst hj
        rw [if_pos rfl, if_pos hlt] at a1
        rw [if_pos rfl, if_pos (by rw [← r.len]; exact hlt)] at a2
        cases a1; cases a2
        exact Own.rl h4.tm.1 fun x => by simp [phiIn]
      · rw [if_neg hj] at a1 a2
        obtain ⟨w, b1, b2⟩ := r.get a1
        rw [a2] at b1; cases b1
        rw [Nat.zero_add] at b2
        have hj' : ¬ j = n := fun z => hj z.symm
        exact Own.rl b2 fun x => by simp [phiIn, hj']
    · rw [List.getElem?_set_ne hk] at e
      obtain ⟨v', b1, b2⟩ := h5.sl k u (by rw [List.getElem?_set_ne hk]; exact e)
      exact ⟨v', b1, Own.wrO hw5 (by simp [pre]; exact fun z => hk z.symm) b2⟩
/-! a deck: [pools, number]; one of its pools by a name of its own -/
def deckT (a : List (List D) × D) : T := .ll [.ll (a.1.map T.l), .f a.2]
def openT (ps : List (List D)) (j : Nat) (v : V) (c : D) : T := .ll [.ll ((ps.map T.l).set j (.hole v)), .f c]
def poolJ (n : Nat) : D → Option Nat | .int c => if 0 < n ∧ n < 1073741824 then some (c % (n : Int)).toNat else none | _ => none
def phiPl (i j x : Nat) : Lab → Option Lab
  | 0 :: a :: b :: c :: y => if a = i ∧ b = 0 ∧ c = j then some (0 :: x :: y) else if a = x then none else some (0 :: a :: b :: c :: y)
  | 0 :: a :: y => if a = x then none else some (0 :: a :: y)
  | l => some l
def phiUp (i j x : Nat) : Lab → Option Lab
  | 0 :: a :: y => if a = x then some (0 :: i :: 0 :: j :: y) else some (0 :: a :: y)
  | l => some l
def tPool (Kf : PySem.W.Frag) (i : Nat) : TE := tOp (rIxA Kf) (tOp (rIxA Kf) (tVar i) (tC (.int 0))) (tOp (rI (fun _ j => 0 < j) fun i j => .int (i % j)) (tOp (rIxA Kf) (tVar i) (tC (.int 1))) (tCB (rLen Kf) (tCons (tOp (rIxA Kf) (tVar i) (tC (.int 0))) tNil)))
theorem rs_pool {i x : Nat} {dk : List (List D) × D} {u : TS} (hs : s[i]? = some (some (deckT dk))) (hx : x < s.length) (hix : i ≠ x) (na : noAli x tmp = true) (hp : F.pv x = none)
    (h : ∃ k, m = ob (poolJ dk.1.length dk.2) k ∧ ∀ j v, dk.1[j]? = some (dk.1.getD j []) → RS F ((v, .ali x) :: tmp) ((s.set i (some (openT dk.1 j v dk.2))).set x (some (.l (dk.1.getD j [])))) (k j) u N Rt) :
    RS F tmp s m (tSeq (tAsg (tPool Kf i) (gName x)) u) N Rt := fun σ H De hh nf eo nx rt => by
  obtain ⟨ps, c⟩ := dk
  obtain ⟨k, em, hk⟩ := h
  obtain ⟨j, ej, em'⟩ := ob_cases (by rw [← em]; exact nf)
  obtain ⟨G, ω, h⟩ := hh
  obtain ⟨v0, e1, a, vs, e2, ha, hw, z, r⟩ := h.sl i _ hs
  subst e2
  obtain ⟨v1, f1, b, ws, f2, hb, hwb, zb, rb⟩ := r.get (j := 0) rfl
  subst f2
  obtain ⟨w2, g1, g2⟩ := r.get (j := 1) rfl
  cases c <;> try (cases ej; done)
  rename_i cn
  cases (show w2 = .int cn from g2)
  simp only [poolJ] at ej
  split at ej
  · rename_i hn
    cases ej
    have hlen : ws.length = ps.length := by rw [← rb.len]; simp
    have hjl : (cn % (ps.length : Int)).toNat < ps.length := by
      have := Int.emod_nonneg cn (show (ps.length : Int) ≠ 0 by omega)
      have := Int.emod_lt_of_pos cn (show (0 : Int) < ps.length by omega)
      omega
    have hj : ps[(cn % (ps.length : Int)).toNat]? = some (ps.getD (cn % (ps.length : Int)).toNat []) := by rw [List.getD_eq_getElem?_getD, List.getElem?_eq_getElem hjl]; rfl
    generalize hjj : (cn % (ps.length : Int)).toNat = j at *
    obtain ⟨v, c1, c2⟩ := rb.get (j := j) (t := .l (ps.getD j [])) (by rw [List.getElem?_map, hj]; rfl)
    have eb : ∀ (Q : VK), Q (.ref b) H → tOp (rIxA Kf) (tVar i) (tC (.int 0)) σ H Q := fun Q q => ⟨_, e1, .inl ⟨a, vs, 0, .ref b, rfl, rfl, .inl (.inl ha), by rw [show (0 : Int) = ((0 : Nat) : Int) from rfl, atI_n]; exact f1, q⟩⟩
    refine eb _ ?_
    refine ⟨_, e1, .inl ⟨a, vs, 1, .int cn, rfl, rfl, .inl (.inl ha), by rw [show (1 : Int) = ((1 : Nat) : Int) from rfl, atI_n]; exact g1, ?_⟩⟩
    refine eb _ ?_
    refine ⟨.ref b, ws.length, rfl, .inl ⟨ws, .inl (.inl hb), rfl⟩, cn, ws.length, rfl, rfl, by omega, ?_⟩
    refine .inl ⟨b, ws, cn % (ws.length : Int), v, rfl, rfl, .inl (.inl hb), ?_, ?_⟩
    · rw [hlen, show cn % (ps.length : Int) = ((j : Nat) : Int) by rw [← hjj, Int.toNat_of_nonneg (Int.emod_nonneg cn (by omega))], atI_n]; exact c1
    have hil : i < s.length := (List.getElem?_eq_some_iff.mp hs).1
    refine hk j v hj (σ.set x (some v)) H De ⟨G, _, h.rl (phiPl i j x) _ _ ((v, .ali x) :: tmp) (by simp [h.len]) (fun k u e => ?_) ⟨by show (σ.set x (some v))[x]? = _; rw [List.getElem?_set_self (by rw [h.len]; exact hx)], ?_⟩ fun k u e => ?_⟩ (by rw [← em', ← em]; exact nf) (by rw [← em', ← em]; exact eo) (fun s' σ' H' hn h1 => nx s' σ' H' (by rw [em, em']; exact hn) h1.pop) (fun t s' v σ' H' hn h1 => rt t s' v σ' H' (by rw [em, em']; exact hn) h1)
    · by_cases hkx : x = k
      · subst hkx
        rw [List.getElem?_set_self (by simpa using hx)] at e
        cases e
        refine ⟨v, by rw [List.getElem?_set_self (by rw [h.len]; exact hx)], Own.rl c2 fun y => ?_⟩
        simp [phiPl]
      · rw [List.getElem?_set_ne hkx] at e
        by_cases hki : i = k
        · subst hki
          rw [List.getElem?_set_self hil] at e
          cases e
          have hxi : ¬ i = x := hix
          refine ⟨_, by rw [List.getElem?_set_ne hkx]; exact e1, a, vs, rfl, ha, rl_of hw (by simp [phiPl, hxi]), z, Owns.of r.len fun q t' v' a1 a2 => ?_⟩
          rw [Nat.zero_add]
          match q, a1 with
          | 0, a1 =>
            cases a1
            rw [f1] at a2; cases a2
            refine ⟨b, ws, rfl, hb, rl_of hwb (by simp [phiPl, hxi]), by simpa using zb, Owns.of (by simp [← hlen]) fun q t' v' a1 a2 => ?_⟩
            rw [Nat.zero_add]
            rw [List.getElem?_set] at a1
            by_cases hq : j = q
            · subst hq
              rw [if_pos rfl, if_pos (by simpa using hjl)] at a1
              cases a1
              rw [c1] at a2; cases a2
              exact rfl
            · rw [if_neg hq] at a1
              obtain ⟨w, d1, d2⟩ := rb.get a1
              rw [a2] at d1; cases d1
              have hq' : ¬ q = j := fun z => hq z.symm
              exact Own.rl d2 fun y => by simp [phiPl, hq', hxi]
          | 1, a1 =>
            cases a1
            rw [g1] at a2; cases a2
            exact rfl
          | n + 2, a1 => simp at a1
        · rw [List.getElem?_set_ne hki] at e
          obtain ⟨v', b1, b2⟩ := h.sl k u e
          have hk' : ¬ k = i := fun z => hki z.symm
          have hk2 : ¬ k = x := fun z => hkx z.symm
          refine ⟨v', by rw [List.getElem?_set_ne hkx]; exact b1, Own.rl b2 fun y => ?_⟩
          match y with
          | [] => simp [phiPl, hk2]
          | [_] => simp [phiPl, hk2]
          | _ :: _ :: _ => simp [phiPl, hk', hk2]
    · refine Tms.slots tmp (fun j hj => ?_) (Tms.rl tmp (fun j x hj => ?_) h.tm)
      · have : x ≠ j := fun e => by subst e; rw [na] at hj; cases hj
        rw [List.getElem?_set_ne this]
      · simp [phiPl]
    · have : x ≠ k := fun z => by subst z; rw [hp] at e; cases e
      rw [List.getElem?_set_ne this]
      exact h.pn k u e
  · cases ej
/-- the pool goes back -/
theorem rs_unpool {i x j : Nat} {ps : List (List D)} {c : D} {v : V} {ds : List D} {t : TS} (hs : s[i]? = some (some (openT ps j v c))) (hx : s[x]? = some (some (.l ds))) (hj : ps[j]? = some (ps.getD j []))
    (h : RS F ((v, .ali x) :: tmp) ((s.set i (some (deckT (ps.set j ds, c)))).set x none) m t N Rt) : RS F ((v, .ali x) :: tmp) s m t N Rt := fun σ H De hh => by
  refine h σ H De ?_
  obtain ⟨G, ω, h⟩ := hh
  obtain ⟨v0, e1, a, vs, e2, ha, hw, z, r⟩ := h.sl i _ hs
  subst e2
  obtain ⟨v1, f1, b, ws, f2, hb, hwb, zb, rb⟩ := r.get (j := 0) rfl
  subst f2
  obtain ⟨w2, g1, g2⟩ := r.get (j := 1) rfl
  obtain ⟨v', x1, x2⟩ := h.sl x _ hx
  have ht : σ[x]? = some (some v) := h.tm.1
  rw [x1] at ht; cases ht
  have hil : i < s.length := (List.getElem?_eq_some_iff.mp hs).1
  have hxl : x < s.length := (List.getElem?_eq_some_iff.mp hx).1
  have hix : ¬ i = x := fun e => by subst e; rw [hs] at hx; cases hx
  have hjl : j < ps.length := (List.getElem?_eq_some_iff.mp hj).1
  refine ⟨G, _, h.rl (phiUp i j x) _ σ _ (by simp [h.len]) (fun k u e => ?_) (Tms.rl _ (fun k y hk => by simp [phiUp]) h.tm) h.pn⟩
  by_cases hkx : x = k
  · subst hkx
    rw [List.getElem?_set_self (by simpa using hxl)] at e
    cases e
  · rw [List.getElem?_set_ne hkx] at e
    by_cases hki : i = k
    · subst hki
      rw [List.getElem?_set_self hil] at e
      cases e
      refine ⟨_, e1, a, vs, rfl, ha, rl_of hw (by simp [phiUp, hix]), z, Owns.of r.len fun q t' v' a1 a2 => ?_⟩
      rw [Nat.zero_add]
      match q, a1 with
      | 0, a1 =>
        cases a1
        rw [f1] at a2; cases a2
        refine ⟨b, ws, rfl, hb, rl_of hwb (by simp [phiUp, hix]), by simpa using zb, Owns.of (by simp [← rb.len]) fun q t' v' a1 a2 => ?_⟩
        rw [Nat.zero_add]
        rw [List.map_set, List.getElem?_set] at a1
        by_cases hq : j = q
        · subst hq
          rw [if_pos rfl, if_pos (by simpa using hjl)] at a1
          cases a1
          obtain ⟨w, d1, d2⟩ := rb.get (j := j) (t := .hole v) (by rw [List.getElem?_set_self (by simpa using hjl)])
          rw [a2] at d1; cases d1
          cases (show v' = v from d2)
          exact Own.rl x2 fun y => by simp [phiUp]
        · rw [if_neg hq] at a1
          obtain ⟨w, d1, d2⟩ := rb.get (j := q) (t := t') (by rw [List.getElem?_set_ne hq]; exact a1)
          rw [a2] at d1; cases d1
          exact Own.rl d2 fun y => by simp [phiUp, hix]
      | 1, a1 =>
        cases a1
        rw [g1] at a2; cases a2
        exact g2
      | n + 2, a1 => simp at a1
    · rw [List.getElem?_set_ne hki] at e
      obtain ⟨v', b1, b2⟩ := h.sl k u e
      have hk2 : ¬ k = x := fun z => hkx z.symm
      exact ⟨v', b1, Own.rl b2 fun y => by simp [phiUp, hk2]⟩
end
end VL

namespace VL
open PySem L2
variable [EC]
/-! text times number -/
def rMulS : R2 := fun x y H Q => ∃ (a : List Nat) (n : Int), x = .str (mkS a) ∧ y = .int n ∧ 0 ≤ n ∧ n ≤ 1000000 ∧ a.length * n.toNat ≤ 16777216 ∧ Q (.str (mkS (List.replicate n.toNat a).flatten)) H
theorem foldl_arr : ∀ (n : Nat) (a : Array Nat) (acc : List Nat), List.foldl (fun x y : Array Nat => x ++ y) acc.toArray (List.replicate n a) = (acc ++ (List.replicate n a.toList).flatten).toArray
  | 0, a, acc => by simp
  | n + 1, a, acc => by
    rw [List.replicate_succ, List.foldl_cons]
    have : acc.toArray ++ a = (acc ++ a.toList).toArray := by apply Array.ext'; simp
    rw [this, foldl_arr n a]
    simp [List.replicate_succ]
theorem mul_mkS (a : List Nat) (n : Int) (h : 0 ≤ n) : Txt.mul (mkS a) n = mkS (List.replicate n.toNat a).flatten := by
  unfold Txt.mul
  by_cases h1 : n < 1
  · rw [if_pos h1]
    have : n = 0 := by omega
    subst this; rfl
  · rw [if_neg h1]
    split
    · rename_i h2
      simp only [Bool.or_eq_true, beq_iff_eq] at h2
      rcases h2 with h2 | h2
      · subst h2; simp [mkS]
      · rw [mkS_len] at h2
        have : a = [] := List.length_eq_zero_iff.mp h2
        subst this
        simp [mkS]
    · have := foldl_arr n.toNat (mkS a).cps []
      simp only [List.nil_append] at this
      show Str.mk _ = _
      rw [show ((#[] : Array Nat)) = ([] : List Nat).toArray from rfl, this, mkS_cps]; rfl
theorem op_mulS {X : Cx} : OpR X (binaryOp .Mult) rMulS := by
  intro pins s σ H x y v u Q I rx ry h
  obtain ⟨a, n, rfl, rfl, h0, h1, hz, q⟩ := h
  obtain ⟨t, rfl⟩ := rx
  obtain ⟨t', rfl⟩ := ry
  refine SB.mul ⟨?_, fun h2 h3 => ?_, fun h2 h3 => ?_⟩ fun t' k => ⟨.str (mkS (List.replicate n.toNat a).flatten), H, I.tok _, ⟨t', by rw [mul_mkS a n h0]⟩, q⟩
  · simp; omega
  · rw [mkS_len]
    have : (a.length : Int) * n ≤ 16777216 := by
      have e : (a.length : Int) * n = ((a.length * n.toNat : Nat) : Int) := by rw [Int.natCast_mul, Int.toNat_of_nonneg h0]
      rw [e]; omega
    intro hgt
    have h5 : (2 ^ 63 - 1) / n * n ≤ 2 ^ 63 - 1 := Int.ediv_mul_le _ (by omega)
    have h6 : ((2 ^ 63 - 1) / n + 1) * n ≤ (a.length : Int) * n := Int.mul_le_mul_of_nonneg_right (by omega) (by omega)
    have h7 : (2 ^ 63 - 1 : Int) < ((2 ^ 63 - 1) / n + 1) * n := Int.lt_ediv_add_one_mul_self _ (by omega)
    omega
  · rw [mkS_len]
    have : a.length * n.toNat ≤ sizeLine := by rw [sizeLine_eq]; exact hz
    simpa [Builtin.Str.tooLong] using this
def mulS : D → D → Option D
  | .str a, .int n => if 0 ≤ n ∧ n ≤ 1000000 ∧ a.length * n.toNat ≤ 16777216 then some (.str (List.replicate n.toNat a).flatten) else none
  | _, _ => none
theorem o_mulS : Op2C rMulS mulS := fun G H x y a b c Q sm ra rb e q => by
  cases a <;> cases b <;> try (cases e; done)
  simp only [mulS] at e
  split at e
  · cases e
    rename_i h
    exact ⟨_, _, ra, rb, h.1, h.2.1, h.2.2, q _ rfl⟩
  · cases e
/-! insert -/
def insL (ds : List D) : D → D → Option (List D) | .int i, d => if ds.length < 16777216 ∧ 0 ≤ i ∧ i < 9223372036854775808 then some (ds.take i.toNat ++ [d] ++ ds.drop i.toNat) else none | _, _ => none
abbrev rInsert : V → List V → Hp → VK → Prop := fun x vs H Q => ∃ (l : Addr) (xs : List V) (i : Int) (y : V), x = .ref l ∧ vs = [.int i, y] ∧ H l = some (.lst xs) ∧ xs.length < sizeLine ∧ 0 ≤ i ∧ i < 2 ^ 63 ∧
    Q .non (upd H l (.lst (xs.take i.toNat ++ [y] ++ xs.drop i.toNat)))
section
variable {R : Type} {F : Fc} {tmp : Tmp} {s : State} {m : Res R} {K : Rs R} {N : Rn R} {Rt : Rr R} {ta tb te to ti : TE} {Kf : PySem.W.Frag}
theorem rd_insert {i : Nat} (hs : ∃ ds, s[i]? = some (some (.l ds)))
    (h : ∀ x, RD F ((x, .ali i) :: tmp) s ta m (fun tm1 s1 m1 => ∃ di, tm1 = .own (.f di) ∧ ∀ y, RD F ((y, .own (.f di)) :: (x, .ali i) :: tmp) s1 tb m1 (fun tm2 s2 m2 => ∃ d ds k, tm2 = .own (.f d) ∧ s2[i]? = some (some (.l ds)) ∧ m2 = ob (insL ds di d) k ∧ ∀ ds', K (.own (.f .non)) (s2.set i (some (.l ds'))) (k ds')))) :
    RD F tmp s (tBM Kf "list" rInsert (tVar i) (tCons ta (tCons tb tNil))) m K := fun σ H Q hh nf eo q => by
  obtain ⟨ds0, hs⟩ := hs
  obtain ⟨a, vs, sa, ha⟩ : ∃ a vs, σ[i]? = some (some (.ref a)) ∧ H a = some (.lst vs) := by
    obtain ⟨a, vs, sa, ha, _⟩ := hh.wrSlot hs
    exact ⟨a, vs, sa, ha⟩
  refine ⟨.ref a, sa, .inl ⟨rfl, vs, .inl (.inl ha)⟩, h (.ref a) σ H _ (by obtain ⟨G, ω, h1⟩ := hh; exact ⟨G, ω, { h1 with tm := ⟨sa, h1.tm⟩ }⟩) nf eo fun tm1 s1 y H1 ⟨di, e1, h1⟩ h2 => ?_⟩
  subst e1
  refine h1 y σ H1 _ h2 nf eo fun tm2 s2 z H2 ⟨d, ds, k, e2, hi, em, hk⟩ h3 => ?_
  subst e2
  obtain ⟨c, ec, em'⟩ := ob_cases (by rw [← em]; exact nf)
  have ey : ∃ j, di = .int j ∧ y = .int j := by
    obtain ⟨G, ω, h6⟩ := h3
    have r : Rep G di y := h6.tm.2.1
    cases di <;> try (cases ec; done)
    exact ⟨_, rfl, r⟩
  obtain ⟨j, rfl, rfl⟩ := ey
  have h4 : Holds F ((z, .own (.f d)) :: tmp) s2 σ H2 := Holds.dropMid (ex := [(.int j, .own (.f (.int j))), (.ref a, .ali i)]) [(z, .own (.f d))] h3
  obtain ⟨a', vs', sa', ha', hl, hz, _, up⟩ := h4.wrSlot hi
  rw [sa] at sa'; cases sa'
  simp only [insL] at ec
  split at ec
  · cases ec
    rename_i hh1
    refine ⟨a, vs', j, z, rfl, rfl, ha', by rw [hl, sizeLine_eq]; exact hh1.1, hh1.2.1, hh1.2.2, ?_⟩
    have h8 := up (ds.take j.toNat ++ [d] ++ ds.drop j.toNat) (vs'.take j.toNat ++ [z] ++ vs'.drop j.toNat) (by rw [sizeLine_eq]; simp; omega) fun G _ _ r ht => ((r.take j.toNat).append (show Reps G [d] [z] from ⟨z, [], rfl, ht _ _ rfl d rfl, rfl⟩)).append (r.drop j.toNat)
    exact q _ _ .non _ (by rw [em, em']; exact hk _) (holds_push (d := .non) h8.pop fun _ => rfl)
  · cases ec
/-! targets of a list -/
def unL (n : Nat) : D → Option (List D) | .lst l => if l.length = n then some l else none | _ => none
theorem rg_lN {gs : TGs} {n : Nat} {d : D} {is : List Nat} {K : State → Res R → Prop} (es : List D → List D) (he : ∀ l, es l = (List.range n).map fun i => l.getD i .non) (h : ∃ k, m = ob (unL n d) k ∧ ∀ l, RGs F tmp s (k l) is gs (es l) K) : RG F tmp s m is (gLst Kf n gs) d K := fun σ H v Q hh nf eo q => by
  obtain ⟨k, em, hk⟩ := h
  obtain ⟨l, el, em'⟩ := ob_cases (by rw [← em]; exact nf)
  cases d <;> try (cases el; done)
  simp only [unL] at el
  split at el
  · cases el
    rename_i hl
    obtain ⟨G, ω, h⟩ := hh
    obtain ⟨a, xs, e, rd, z, r⟩ : Rep G (.lst l) v := h.tm.1
    subst e
    have ees : es l = l := by
      rw [he, ← hl]
      apply List.ext_getElem
      · simp
      · intro i h1 h2
        simp [List.getD_eq_getElem?_getD, h2]
    have hkl := hk l
    rw [ees] at hkl
    have hp := h.pop
    have key : ∀ (ds : List D) (vs : List V), Reps G ds vs → Hd F G ω (vs.zip (ds.map fun d => TM.own (.f d)) ++ tmp) s σ H := by
      intro ds
      induction ds with
      | nil => intro vs h; cases (show vs = [] from h); exact hp
      | cons d r ih =>
        intro vs ⟨v, q, e, h, k⟩
        subst e
        exact (ih q k).pushF h
    exact ⟨a, xs, rfl, .inl (Same.rd h.gH rd), by rw [← r.length]; exact hl, hkl xs r.length.symm σ H Q ⟨G, ω, key l xs r⟩ (by rw [← em', ← em]; exact nf) (by rw [← em', ← em]; exact eo) (fun s' σ' H' hk' => q s' σ' H' (by rw [em, em']; exact hk'))⟩
  · cases el
theorem pg_lstK {X : Cx} {es : List Expr} {k : Nat} {t : TGs} {n : Nat} {pos : Pos} (hK : X.K = Kf) (hc : X.calm = true) (h : PGs X es t)
    (hn : (assignEach es X.env).length = n := by rfl) (hst : (assignEach es X.env).findIdx? (·.1) = none := by rfl) : PG X (.Tuple es k pos) (gLst Kf n t) := by subst hK; exact pg_lst hc h hn hst
end
end VL

set_option maxHeartbeats 2000000
namespace VL
open PySem PySem.Spec PyProof.Rows L2
/-! a caught exception, kept by a name -/
theorem exH_ok {P : Program} {w : World} {H : Hp} {h : Heap} {x C : Addr} {dd : Option Addr} {oe : Obj} {vs : Array Value} (e : h.get? x = some oe) (z : Zc (.ref C) dd oe) (d : oe.data = .fields vs) : ObjOk P w H h x (exH x C dd) :=
  ⟨⟨oe, vs, e, z, d⟩, ⟨oe, e⟩, fun _ _ ⟨o, v, q, r⟩ k => ⟨o, v, k o q, r⟩⟩
theorem exH_at {P : Program} {w : World} {H : Hp} {h : Heap} {x C : Addr} {dd : Option Addr} (k : HOk P w H h) (e : H x = some (exH x C dd)) : ∃ (oe : Obj) (vs : Array Value), h.get? x = some oe ∧ Zc (.ref C) dd oe ∧ oe.data = .fields vs := by
  have q := k x _ e
  exact q.1
section
variable {X : Cx} {pins : List (Addr × Obj)} {σ : L2.St} {H : Hp} {s : Shared}
/-- an object of the call's own is looked at from here on -/
theorem Inv.look {x C : Addr} {dd : Option Addr} {oe : Obj} {vs : Array Value} (I : Inv X ((x, oe) :: pins) σ H s) (z : Zc (.ref C) dd oe) (d : oe.data = .fields vs) (n0 : X.s_0.heap.get? x = none) (np : ∀ p ∈ X.pn ++ pins, p.1 ≠ x) :
    Inv X pins σ (upd H x (exH x C dd)) s := by
  have px := I.pin (x, oe) (List.mem_append_right _ List.mem_cons_self)
  obtain ⟨hx, hn, nl, nf, nc⟩ := px
  have hx : s.heap.get? x = some oe := hx
  have hn : H x = none := hn
  have far : ∀ {b : Addr} {o : Obj}, X.s_0.heap.get? b = some o → b ≠ x := fun {b o} e q => by rw [q, n0] at e; cases e
  have okx := exH_ok (P := X.prog) (w := X.w) (H := upd H x (exH x C dd)) hx z d
  exact {
    ok := I.ok
    os := I.os
    bare := I.bare
    base := {
      keep := I.base.keep
      slot := I.base.slot
      free := fun b o e n q => by rw [upd_ne (far e)]; exact I.base.free b o e n q
      there := I.base.there
      tups := fun b xs e => by
        have q := I.base.tups b xs e
        rw [upd_ne (ne_of_none q hn)]; exact q
      frzs := fun b o u e => by
        have q := I.base.frzs b o u e
        rw [upd_ne (ne_of_none q hn)]; exact q
      tbls := fun b ps e => by
        obtain ⟨more, q⟩ := I.base.tbls b ps e
        exact ⟨more, by rw [upd_ne (ne_of_none q hn)]; exact q⟩ }
    loc := I.loc
    cell := I.cell
    free := by
      rw [upd_ne (fun q => nl q.symm)]; exact I.free
    freeC := fun y c e => by
      have ne : c ≠ x := fun q => by
        obtain ⟨v, o, ho, hd⟩ := I.cell y c e
        rw [q, hx] at ho
        cases ho
        rw [d] at hd; cases hd
      rw [upd_ne ne]; exact I.freeC y c e
    pin := fun p hp => by
      have q := I.pin p (by
        rcases List.mem_append.mp hp with h | h
        · exact List.mem_append_left _ h
        · exact List.mem_append_right _ (List.mem_cons_of_mem _ h))
      exact ⟨q.1, by rw [upd_ne (np p hp)]; exact q.2.1, q.2.2⟩
    hok := fun b u e => by
      by_cases hb : b = x
      · rw [hb] at e ⊢
        rw [upd_same] at e
        cases e; exact okx
      · rw [upd_ne hb] at e
        exact (I.hok b u e).stay (fun _ _ _ q => q) (fun c q => by rw [upd_ne (ne_of_none q hn)]; exact q) fun c xs q => by rw [upd_ne (ne_of_none q hn)]; exact q
    len := I.len }
/-- what 'except c as e: y = e' wishes of an exception of the body: slot i is e's, slot j is y's -/
def wKeep (K : PySem.W.Frag) (c : Value) (i j : Nat) (D : Ends) : WX := fun cls d σ H => ∃ C : Addr, cls = .ref C ∧ PySem.W.exmOne K cls c = some true ∧
  ∀ x, H x = none → D.nx (((σ.set i (some (.ref x))).set j (some (.ref x))).set i none) (upd H x (exH x C d))
def tTry (K : PySem.W.Frag) (c : Value) (i j : Nat) (tb : WX → TS) : TS := fun D σ H => tb (wKeep K c i j D) D σ H
end
section
variable {X : Cx} {x n y : Str} {c : Value} {i j : Nat} {body : List Stmt} {np np2 yp apos pos pos' : Pos} {tb : WX → TS}
theorem ps_try_keep0 (hs : X.stack = X.env :: X.outer) (hf : X.env.frame = some X.env.locals) (hN : X.N.Nodup) (hi : X.N[i]? = some n) (hj : X.N[j]? = some y) (hln : X.env.kindOf n = some .local) (hly : X.env.kindOf y = some .local) (hc : Names X x c) (hex : X.ex = [])
    (hd1 : (n == ("__debug__" : Str)) = false) (hd2 : (n == ("__classdict__" : Str)) = false)
    (hsw : ∀ (a : Addr) (pn : List (Addr × Obj)), swapsWith (.Name n np2) (some (.Name y yp)) apos.line (X.suite a pn).env = pure false)
    (hb : ∀ (W : WX) (pn : List (Addr × Obj)) (xe : Value → Shared → Prop), Takes (X.tr pn xe) W → PassesOwn (model X.prog X.w) X.A X.env xe → PSs (X.tr pn xe) body (tb W)) :
    PS X (.Try body [.ExceptHandler (some (.Name x np)) (some n) [.Assign [.Name y yp] (.Name n np2) apos] pos'] [] [] pos) (fun D σ H => tb (wKeep X.K c i j D) D σ H) := by
  refine ⟨fun pins s σ H D I h => ?_⟩
  have okX := I.ok
  have frs_ : X.A.frames = some (X.env :: X.outer) := by rw [okX.frames, hs]
  have lo_n : Loc X.env.scope n := .inl hln
  have lo_y : Loc X.env.scope y := .inl hly
  have bodyRun := (hb (wKeep X.K c i j D) (X.pn ++ pins) (fun ev t1 => wpAny (model X.prog X.w) X.A (noteFrame ev X.env) (fun _ t2 => wpAny (model X.prog X.w) X.A (setFlight ev none) (fun _ t3 =>
    wpAny (model X.prog X.w) X.A (handleBy ev X.env [.ExceptHandler (some (.Name x np)) (some n) [.Assign [.Name y yp] (.Name n np2) apos] pos']) (SP X pins D) X.xe t3) X.xe t2) X.xe t1) (fun u t xx => ?_) PassesOwn.looking).run [] s σ H D (I.toTry _) h
  · refine wpAny_Try_except (wpAny_mono bodyRun (fun f t1 fin => ?_) fun ev t1 z => z)
    cases f with
    | next => exact wpAny_execs_nil (let ⟨σ1, H1, J1, q1⟩ := fin; ⟨σ1, H1, J1.ofTry okX, q1⟩)
    | brk => exact (let ⟨σ1, H1, J1, q1⟩ := fin; ⟨σ1, H1, J1.ofTry okX, q1⟩)
    | cont => exact (let ⟨σ1, H1, J1, q1⟩ := fin; ⟨σ1, H1, J1.ofTry okX, q1⟩)
    | ret u => exact (let ⟨v1, σ1, H1, J1, r1, q1⟩ := fin; ⟨v1, σ1, H1, J1.ofTry okX, r1, q1⟩)
  · obtain ⟨a, B, sI, pins1, σ1, H1, cls, d, rfl, JT, nb, up0, sky, na, osE, agE, C, ecls, hexm, yes⟩ := xx
    have J : Inv X pins σ1 H1 sI := JT.ofTry okX
    have skyX : Sky B (X.env :: X.outer) a (Zc cls d) X.env.locals t.heap := by rw [← hs]; exact sky
    show wpAny (model X.prog X.w) X.A (noteFrame (.ref a) X.env) _ _ _
    refine Sky.land Zc.steady frs_ hf skyX fun hA flA upA => ?_
    have JA : Inv X pins σ1 H1 { t with heap := hA } := J.landed nb flA.1 (up0.trans upA) osE agE
    obtain ⟨oA, vA, eA, zA, dA⟩ := flA.there
    have outFr : ∀ {g : Heap} {o : Obj} {vs : Array Value}, g.FunFrames B (X.env :: X.outer) → g.get? a = some o → o.data = .fields vs → a ∉ frs (X.env :: X.outer) := fun {g o vs} ff e dd hm => by
      obtain ⟨_, o2, e2, hnf⟩ := ff.mem hm
      rw [e] at e2; cases e2
      exact hnf _ dd
    have nfr := outFr flA.2.2.1 eA dA
    have nL : a ≠ X.env.locals := fun z => nfr (List.mem_filterMap.mpr ⟨X.env, List.mem_cons_self, by rw [hf, z]⟩)
    have nF : a ∉ X.fs := fun hm => by
      obtain ⟨ev, he, q⟩ := List.mem_filterMap.mp hm
      exact nfr (List.mem_filterMap.mpr ⟨ev, List.mem_cons_of_mem _ he, q⟩)
    have aI : sI.heap.get? a = none := by
      cases e : sI.heap.get? a with
      | none => rfl
      | some o =>
        have := nb a o e (by rw [hs]; exact nfr)
        have nB : B.get? a = none := by
          rcases skyX with k | k | k
          · exact k.2.1
          · exact k.2.1
          · exact k.2.1
        rw [nB] at this; cases this
    have a0 : X.s_0.heap.get? a = none := by
      cases e : X.s_0.heap.get? a with
      | none => rfl
      | some o =>
        obtain ⟨o2, e2⟩ := J.base.there a o e (by rw [hex]; exact fun z => by cases z)
        rw [aI] at e2; cases e2
    have apn : ∀ p ∈ X.pn ++ pins, p.1 ≠ a := fun p hp q => by
      have := (J.pin p hp).1
      rw [q, aI] at this; cases this
    have SA := JA.suite eA dA na nL nF
    refine wpAny_handleBy_cons (codeAny_handlers_test ?_) (by intro q; cases q)
    have kTy : PySem.W.Looks (model X.prog X.w) hA (typeOf (.ref a)) cls := fun A Q E t1 k q => wpAny_typeOf_ref (k _ _ eA) (by rw [zA.1]; exact q)
    have kEx := PySem.W.exm_one (M := model X.prog X.w) (JA.kIn) kTy hexm
    have ask : ∀ {Q : Value → Shared → Prop} {E : Value → Shared → Prop}, Q c { t with heap := hA } → wpAny (model X.prog X.w) (X.A.mark (some (.ref a))) (eval (.Name x np) X.env) Q E { t with heap := hA } := fun {Q E} q => by
      obtain ⟨hg, hdbg, hm | ⟨hm, hv, hnn⟩⟩ := hc
      · exact ld_glob (X := X.suite a ((a, oA) :: (X.pn ++ pins))) SA hg hm q hdbg
      · exact ld_blt (X := X.suite a ((a, oA) :: (X.pn ++ pins))) SA hg hm hv q hnn hdbg
    refine ask (kEx.here ?_)
    refine codeAny_handlers_suite_as ?_
    refine HandSPX.lands_againZ flA fun hB flB upB => ?_
    have JB : Inv X pins σ1 H1 { t with heap := hB } := J.landed nb flB.1 ((up0.trans upA).trans upB) osE agE
    obtain ⟨oB, vB, eB, zB, dB⟩ := flB.there
    have SB := JB.suite eB dB na nL nF
    refine store_ok (X := X.suite a ((a, oB) :: (X.pn ++ pins))) (v := .ref a) SB hN hi lo_n rfl (fun t5 S5 => ?_) (.inr hln)
    have hil : i < σ1.length := by rw [J.len]; exact (List.getElem?_eq_some_iff.mp hi).1
    have st : PSs (X.suite a ((a, oB) :: (X.pn ++ pins))) [.Assign [.Name y yp] (.Name n np2) apos] (tSeq (tAsg (tVar i) (gName j)) tNext) :=
      pss_cons (ps_set (X := X.suite a ((a, oB) :: (X.pn ++ pins))) (i := j) hN hj lo_y (pe_var (X := X.suite a ((a, oB) :: (X.pn ++ pins))) hi (.inl hln) hd1 hd2) (hsw a _) (.inr hly)) pss_nil
    refine wpAny_mono (st.run [] t5 _ H1 { nx := fun σ6 H6 => σ6 = (σ1.set i (some (.ref a))).set j (some (.ref a)) ∧ H6 = H1, rt := fun _ _ => False, bk := fun _ _ => False, ct := fun _ _ => False } S5 ⟨.ref a, by rw [List.getElem?_set_self hil], rfl, rfl⟩) (fun f t6 fin => ?_) (fun _ _ z => False.elim z)
    cases f with
    | next =>
      obtain ⟨σ6, H6, S6, e6, eH⟩ := fin
      subst e6 eH
      have J6 : Inv X ((a, oB) :: pins) ((σ1.set i (some (.ref a))).set j (some (.ref a))) H6 t6 :=
        ⟨okX, S6.os, S6.bare, S6.base, S6.loc, S6.cell, S6.free, S6.freeC, fun p hp => S6.pin p (by
          rcases List.mem_append.mp hp with k | k
          · exact List.mem_append_left _ (List.mem_cons_of_mem _ (List.mem_append_left _ k))
          · rcases List.mem_cons.mp k with k | k
            · exact k ▸ List.mem_append_left _ List.mem_cons_self
            · exact List.mem_append_left _ (List.mem_cons_of_mem _ (List.mem_append_right _ k))), S6.hok, S6.len⟩
      refine gone_ok J6 hN hi hln fun t7 J7 => ?_
      have zB' : Zc (.ref C) d oB := by rw [← ecls]; exact zB
      exact ⟨_, _, VL.Inv.look J7 zB' dB a0 apn, yes a na⟩
    | brk => exact (let ⟨_, _, _, q6⟩ := fin; False.elim q6)
    | cont => exact (let ⟨_, _, _, q6⟩ := fin; False.elim q6)
    | ret u => exact (let ⟨_, _, _, _, _, q6⟩ := fin; False.elim q6)
theorem ps_try_keep {Kf : PySem.W.Frag} (hK : X.K = Kf) (hs : X.stack = X.env :: X.outer) (hf : X.env.frame = some X.env.locals) (hN : X.N.Nodup) (hi : X.N[i]? = some n) (hj : X.N[j]? = some y) (hln : X.env.kindOf n = some .local) (hly : X.env.kindOf y = some .local) (hc : Names X x c) (hex : X.ex = [])
    (hd1 : (n == ("__debug__" : Str)) = false) (hd2 : (n == ("__classdict__" : Str)) = false)
    (hsw : ∀ (a : Addr) (pn : List (Addr × Obj)), swapsWith (.Name n np2) (some (.Name y yp)) apos.line (X.suite a pn).env = pure false)
    (hb : ∀ (W : WX) (pn : List (Addr × Obj)) (xe : Value → Shared → Prop), Takes (X.tr pn xe) W → PassesOwn (model X.prog X.w) X.A X.env xe → PSs (X.tr pn xe) body (tb W)) :
    PS X (.Try body [.ExceptHandler (some (.Name x np)) (some n) [.Assign [.Name y yp] (.Name n np2) apos] pos'] [] [] pos) (tTry Kf c i j tb) := by
  subst hK; exact ps_try_keep0 hs hf hN hi hj hln hly hc hex hd1 hd2 hsw hb
end
end VL

set_option maxHeartbeats 1000000
namespace VL
open PySem L2
variable [EC]
def noerr {R : Type} : Res R → Res R | .ok r => .ok r | _ => .fail
theorem spOf_noerr {A R : Type} {ec : Nat → Addr} {ea : A → List T} {mir : A → Res R} {er : R → T} {eo : R → List (Option T)} {vs : List V} {H : Hp} {Q : VK} {E E' : XK} (h : spOf ec ea (fun a => noerr (mir a)) er eo vs H Q E) : spOf ec ea mir er eo vs H Q E' := by
  obtain ⟨a, G, w, h1, h2, h3, h4, h5, h6, h7⟩ := h
  cases em : mir a with
  | ok r => exact ⟨a, G, w, h1, h2, h3, h4, (by rw [em]; intro z; cases z), fun r' v H' e p => h6 r' v H' (by show noerr (mir a) = _; rw [e]; rfl) p, fun e od H' z => by rw [em] at z; cases z⟩
  | err e => exact absurd (by show noerr (mir a) = _; rw [em]; rfl) h5
  | fail => exact absurd (by show noerr (mir a) = _; rw [em]; rfl) h5
section
variable {A R R' : Type} {ec : Nat → Addr} {ea : A → List T} {mir : A → Res R'} {er : R' → T} {eo : R' → List (Option T)} {F : Fc} {tmp : Tmp} {s : State} {m : Res R} {K : Rs R} {N : Rn R} {Rt : Rr R} {t : TA} {E : XK} {te : TE}
/-- a call that lets nothing out here -/
theorem rd_call0 (hec : F.ec = ec)
    (h : RA F tmp s m t (fun tms s1 m1 => ∃ (a : A) (k : R' → Res R), m1 = rb (noerr (mir a)) k ∧ tms.map (treeAt s1) = (ea a).map some ∧ aliNd tms = true ∧ ∀ r, K (.own (er r)) (putOuts s1 tms (eo r)) (k r))) :
    RD F tmp s (tCall (spOf ec ea mir er eo) [] E t) m K := fun σ H Q hh nf eo' q => h σ H _ hh nf eo' fun tms s1 vs H1 hx hl h1 =>
  spOf_noerr (E := E) (call_core (mir := fun a => noerr (mir a)) hec (.inr fun a e z => by cases em : mir a <;> (rw [show noerr (mir a) = _ from by rw [em]] at z; cases z)) nf eo' q hx hl h1)
/-- a call in a try -/
theorem rd_callS {W : WX} (hec : F.ec = ec) (hE : ∀ σ : L2.St, σ.length = s.length → (∀ k v, F.pv k = some v → σ[k]? = some (some v)) → ∀ c d H', F.E c d H' → W c d σ H')
    (h : RA F tmp s m t (fun tms s1 m1 => ∃ (a : A) (k : R' → Res R), m1 = rb (mir a) k ∧ tms.map (treeAt s1) = (ea a).map some ∧ aliNd tms = true ∧ ∀ r, K (.own (er r)) (putOuts s1 tms (eo r)) (k r))) :
    RD F tmp s (tCallS (spOf ec ea mir er eo) (WE W) t) m K := fun σ H Q hh nf eo' q => h σ H _ hh nf eo' fun tms s1 vs H1 hx hl h1 => by
  have hp : ∀ k v, F.pv k = some v → σ[k]? = some (some v) := let ⟨_, _, z⟩ := hh; z.pn
  have := call_core (E := WE W σ) hec (.inl (hE σ hh.len hp)) nf eo' q hx hl h1
  rwa [List.append_nil] at this
/-! raise -/
theorem Hd.errP {G H : Hp} {ω : Addr → Option Lab} {σ : L2.St} (h : Hd F G ω tmp s σ H) (k : Nat) : ErrP F ⟨k, none⟩ none H :=
  ⟨G, h.g0, h.gH, h.gn, h.fr, h.ex, rfl⟩
theorem rs_raise {k : Nat} {C : Addr} (hE : F.E = E) (hC : F.ec k = C) (e : m = .err ⟨k, none⟩) : RS F tmp s m (fun _ _ H => E (.ref C) none H) N Rt := fun σ H D hh nf eo nx rt => by
  obtain ⟨G, ω, h⟩ := hh
  rw [← hE, ← hC]
  exact eo ⟨k, none⟩ e none H (h.errP k)
/-- self.f = v in an exception's __init__ -/
def spInit (K : PySem.W.Frag) (f : Str) : Sp := fun vs H Q _ => ∃ (a C : Addr) (v : V), vs = [.ref a, v] ∧ H a = some (exo a C none) ∧ OexC K C ∧ PySem.W.findIn K (.ref C) f = some none ∧
  ∀ dx, H dx = none → dx ≠ a → Q .non (upd (upd H dx (exd dx [(f, v)])) a (exo a C (some dx)))
theorem rs_raiseAt {k : Nat} {C : Addr} {Kf : PySem.W.Frag} (hE : F.E = E) (hC : F.ec k = C) (hO : OexC Kf C) (hno : PySem.W.findIn Kf (.ref C) "at" = some none)
    (h : RD F tmp s te m (fun tm s1 m1 => ∃ d, tm = .own (.f d) ∧ m1 = .err ⟨k, some d⟩)) :
    RS F tmp s m (fun _ σ H => tMkO C (spInit Kf "at") [] (tCons te tNil) σ H fun cls d H' => E cls d H') N Rt := fun σ H D hh nf eo nx rt => by
  refine h σ H _ hh nf eo fun tm s1 v H1 ⟨d, e1, em⟩ h1 => ?_
  subst e1
  refine ⟨by simp, fun a ha => ⟨a, C, v, rfl, upd_same, hO, hno, fun dx hdx ne => ?_⟩⟩
  have hd1 : H1 dx = none := by rw [upd_ne ne] at hdx; exact hdx
  refine ⟨rfl, dx, [("at", v)], upd_same, by rw [upd_ne ne, upd_same], hd1, ?_⟩
  have eH : upd (L2.del (upd (upd (upd H1 a (exo a C none)) dx (exd dx [("at", v)])) a (exo a C (some dx))) a) dx (.xd [("at", v)]) = upd H1 dx (.xd [("at", v)]) := by
    funext b
    by_cases hb : b = dx
    · rw [hb, upd_same, upd_same]
    · rw [upd_ne hb, upd_ne hb]
      by_cases hb2 : b = a
      · rw [hb2, L2.del_same, ha]
      · rw [L2.del_ne hb2, upd_ne hb2, upd_ne hb, upd_ne hb2]
  rw [eH]
  obtain ⟨G, ω, h1⟩ := h1
  have h2 := h1.newG (o := .xd [("at", v)]) hd1
  rw [← hE, ← hC]
  have r : Rep G d v := h1.tm.1
  exact eo ⟨k, some d⟩ em (some dx) _ ⟨_, h2.g0, h2.gH, h2.gn, h2.fr, h2.ex, dx, v, rfl, h1.new hd1, upd_same, Rep.mono (fun b u e => upd_keep (h1.gfree hd1) e) _ _ r⟩
end
/-! try -/
def excD (e : Ex) : D := .exc e.k (match e.a with | none => [] | some d => [d])
def tryM {Z : Type} (ok : Nat → Bool) (mb : Res Z) (h : D → Z) : Res Z := match mb with
  | .ok z => .ok z
  | .err e => if ok e.k = true then .ok (h (excD e)) else .fail
  | .fail => .fail
def keepP (ps : List Nat) : Nat → State → State
  | _, [] => []
  | n, x :: r => (match ps.contains n, x with | true, some (.f d) => some (.f d) | _, _ => none) :: keepP ps (n + 1) r
theorem keepP_len (ps : List Nat) : ∀ (n : Nat) (s : State), (keepP ps n s).length = s.length
  | _, [] => rfl
  | n, _ :: r => by simp [keepP, keepP_len ps (n + 1) r]
theorem keepP_get (ps : List Nat) : ∀ (n : Nat) (s : State) (i : Nat) (t : T), (keepP ps n s)[i]? = some (some t) → ∃ d, t = .f d ∧ s[i]? = some (some (.f d)) ∧ n + i ∈ ps
  | _, [], i, t, h => by simp [keepP] at h
  | n, x :: r, 0, t, h => by
    simp only [keepP, List.getElem?_cons_zero, Option.some.injEq] at h
    split at h
    · rename_i d hc
      cases h
      exact ⟨d, rfl, rfl, by simpa using hc⟩
    · cases h
  | n, x :: r, i + 1, t, h => by
    simp only [keepP, List.getElem?_cons_succ] at h
    obtain ⟨d, e1, e2, e3⟩ := keepP_get ps (n + 1) r i t h
    exact ⟨d, e1, by simpa using e2, by rwa [show n + (i + 1) = n + 1 + i by omega]⟩
theorem Holds.cleared {F : Fc} {tmp : Tmp} {s : State} {σ : L2.St} {H : Hp} {i : Nat} (h : Holds F tmp s σ H) (hs : s[i]? = some none) (na : noAli i tmp = true) (hp : F.pv i = none) : Holds F tmp s (σ.set i none) H := by
  obtain ⟨G, ω, h⟩ := h
  refine ⟨G, ω, { h with len := by rw [List.length_set]; exact h.len, sl := fun k t e => ?_, tm := Tms.slots tmp (fun k hk => ?_) h.tm, pn := fun k v e => ?_ }⟩
  · obtain ⟨v, a, b⟩ := h.sl k t e
    have : i ≠ k := fun z => by subst z; rw [hs] at e; cases e
    exact ⟨v, by rw [List.getElem?_set_ne this]; exact a, b⟩
  · have : i ≠ k := fun z => by subst z; rw [na] at hk; cases hk
    rw [List.getElem?_set_ne this]
  · have : i ≠ k := fun z => by subst z; rw [hp] at e; cases e
    rw [List.getElem?_set_ne this]; exact h.pn k v e
theorem try_core {R Z : Type} {F : Fc} {s : State} {m : Res R} {N : Rn R} {Kf : PySem.W.Frag} {c : Value} {i j : Nat} (ps : List Nat) (ok : Nat → Bool) (S : Z → State) (mb : Res Z) (hz : D → Z) (k : Z → Res R) (em : m = rb (tryM ok mb hz) k)
    (hij : i ≠ j) (hj : j < s.length) (hec : F.ec = EC.ec) (hpv : ∀ k, F.pv k = none) (hok : ∀ k, ok k = true → PySem.W.exmOne Kf (.ref (EC.ec k)) c = some true)
    (hs : ∀ d, Sub ((keepP ps 0 s).set j (some (.f d))) (S (hz d))) (hi2 : (keepP ps 0 s)[i]? = some none) (hn : ∀ z, N (S z) (k z))
    {σ : L2.St} {H : Hp} {De : Ends} (hh : Holds F [] s σ H) (nf : m ≠ .fail) (nx : ∀ s' σ' H', N s' m → Holds F [] s' σ' H' → De.nx σ' H') :
    ∃ F' : Fc, F'.ec = EC.ec ∧ F'.K = F.K ∧ (∀ k, k ∉ ps → F'.pv k = none) ∧ (∀ σ1 : L2.St, σ1.length = s.length → (∀ k v, F'.pv k = some v → σ1[k]? = some (some v)) → ∀ c2 d H', F'.E c2 d H' → wKeep Kf c i j De c2 d σ1 H') ∧
      Holds F' [] s σ H ∧ mb ≠ .fail ∧ EOk F' mb ∧ ∀ tmp s' σ' H', Holds F' tmp s' σ' H' → Holds F tmp s' σ' H' := by
  obtain ⟨G, ω, h⟩ := hh
  have nfb : tryM ok mb hz ≠ .fail := fun z => nf (by rw [em, z]; rfl)
  let E' : XK := fun cls d H' => ∀ σ1 : L2.St, σ1.length = s.length → (∀ k ∈ ps, ∀ v, σ[k]? = some (some v) → σ1[k]? = some (some v)) → wKeep Kf c i j De cls d σ1 H'
  let F' : Fc := { K := F.K, G0 := G, H0 := H, w0 := ω, E := E', ec := F.ec, pv := fun k => if k ∈ ps then (match σ[k]? with | some x => x | none => none) else none }
  have pvE : ∀ k v, F'.pv k = some v ↔ k ∈ ps ∧ σ[k]? = some (some v) := fun k v => by
    show (if k ∈ ps then (match σ[k]? with | some x => x | none => none) else none) = some v ↔ _
    by_cases hk : k ∈ ps
    · rw [if_pos hk]
      cases e : σ[k]? with
      | none => simp [hk]
      | some x => simp [hk]
    · rw [if_neg hk]; simp [hk]
  have own0 : ∀ {a : Addr} {o : HO}, F.H0 a = some o → F.w0 a = none → H a = some o ∧ ω a = none := fun {a o} e w => by
    refine ⟨h.fr a o e w, ?_⟩
    cases q : ω a with
    | none => rfl
    | some p =>
      rcases (h.wg a p q).2.2 with z | z
      · rw [e] at z; cases z
      · rw [w] at z; cases z
  have hF' : Holds F' [] s σ H := ⟨G, ω, Same.refl G, h.gH, fun a o e => .inl e, fun a o e _ => e, fun a o e => ⟨o, e⟩, fun a p e => ⟨(h.wg a p e).1, (h.wg a p e).2.1, .inr (by show (ω a).isSome = true; rw [e]; rfl)⟩, h.len, h.sl, trivial, fun k v e => ((pvE k v).mp e).2⟩
  refine ⟨F', hec, rfl, fun k hk => by show (if k ∈ ps then _ else none) = none; rw [if_neg hk], fun σ1 hl hp c2 d H' z => ?_, hF', fun z => nfb (by rw [z]; rfl), fun e he od H' ep => ?_, fun tmp s' σ' H' hk => ?_⟩
  · exact z σ1 hl fun k hk v e => hp k v ((pvE k v).mpr ⟨hk, e⟩)
  · -- an exception
    show E' (.ref (F.ec e.k)) od H'
    intro σ1 hl hσ
    have ek : ok e.k = true := by
      refine Decidable.byContradiction fun z => nfb ?_
      rw [he]
      show (if ok e.k = true then _ else _) = _
      rw [if_neg z]
    obtain ⟨G', g1, g2, g3, g4, g5, g6⟩ := ep
    have g1 : Same G G' := g1
    refine ⟨F.ec e.k, rfl, by rw [hec]; exact hok _ ek, fun x hx => ?_⟩
    have base : Hd F G' (fun _ => none) [] (keepP ps 0 s) σ1 H' := by
      refine ⟨h.g0.trans g1, g2, fun a o q => ?_, fun a o q w => ?_, fun a o q => ?_, fun a p q => (by cases q), (by rw [keepP_len]; exact hl), fun k t q => ?_, trivial, fun k v q => (by rw [hpv] at q; cases q)⟩
      · rcases g3 a o q with z | z | z
        · exact h.gn a o z
        · exact .inr (.inl (h.new z))
        · obtain ⟨p, hp⟩ := Option.isSome_iff_exists.mp (show (ω a).isSome = true from z)
          exact .inr (h.wg a p hp).2.2
      · obtain ⟨z1, z2⟩ := own0 q w
        exact g4 a o z1 z2
      · obtain ⟨o', z⟩ := h.ex a o q
        exact g5 a o' z
      · obtain ⟨d, e1, e2, e3⟩ := keepP_get ps 0 s k t q
        subst e1
        obtain ⟨v, v1, v2⟩ := h.sl k (.f d) e2
        rw [Nat.zero_add] at e3
        exact ⟨v, hσ k e3 v v1, Rep.mono g1 _ _ v2⟩
    have b2 := base.newG (o := exH x (F.ec e.k) od) hx
    have xr : Rep (upd G' x (exH x (F.ec e.k) od)) (excD e) (.ref x) := by
      cases ea : e.a with
      | none =>
        rw [ea] at g6
        have e5 : od = none := g6
        subst e5
        simp only [excD, ea]
        exact ⟨x, none, [], rfl, by rw [upd_same, hec], rfl, .inl ⟨rfl, rfl⟩⟩
      | some d =>
        rw [ea] at g6
        obtain ⟨dx, v, e5, e6, e7, e8⟩ := g6
        subst e5
        simp only [excD, ea]
        have nx : dx ≠ x := fun z => by
          have := g2 _ _ e7
          rw [z, hx] at this; cases this
        have sm : Same G' (upd G' x (exH x (F.ec e.k) (some dx))) := fun b u q => upd_keep (base.gfree hx) q
        exact ⟨x, some dx, [v], rfl, by rw [upd_same, hec], ⟨v, [], rfl, Rep.mono sm _ _ e8, rfl⟩, .inr ⟨v, dx, rfl, rfl, sm _ _ e7⟩⟩
    have b3 : Holds F [] ((keepP ps 0 s).set j (some (.f (excD e)))) (σ1.set j (some (.ref x))) (upd H' x (exH x (F.ec e.k) od)) :=
      Holds.store (t := .f (excD e)) (v := .ref x) ⟨_, _, b2.pushF xr⟩ (by rw [keepP_len]; exact hj) rfl (hpv j)
    have b4 := Holds.cleared b3 (i := i) (by rw [List.getElem?_set_ne (fun z => hij z.symm)]; exact hi2) rfl (hpv i)
    have eσ : ((σ1.set i (some (.ref x))).set j (some (.ref x))).set i none = (σ1.set j (some (V.ref x))).set i none := by
      apply List.ext_getElem?
      intro q
      by_cases hq : i = q
      · subst hq
        simp only [List.getElem?_set, List.length_set, if_true]
      · simp only [List.getElem?_set, List.length_set, if_neg hq]
    rw [eσ]
    refine nx _ _ _ ?_ (b4.sub (hs (excD e)))
    rw [em, he]
    show N _ (rb (if ok e.k = true then .ok (hz (excD e)) else .fail) k)
    rw [if_pos ek]
    exact hn _
  · obtain ⟨G', ω', h2⟩ := hk
    exact ⟨G', ω', h.g0.trans h2.g0, h2.gH, fun a o q => by
      rcases h2.gn a o q with z | z | z
      · exact h.gn a o z
      · exact .inr (.inl (h.new z))
      · obtain ⟨p, hp⟩ := Option.isSome_iff_exists.mp (show (ω a).isSome = true from z)
        exact .inr (h.wg a p hp).2.2, fun a o q w => by
      obtain ⟨z1, z2⟩ := own0 q w
      exact h2.fr a o z1 z2, fun a o q => by
      obtain ⟨o', z⟩ := h.ex a o q
      exact h2.ex a o' z, fun a p q => by
      obtain ⟨w1, w2, w3⟩ := h2.wg a p q
      refine ⟨w1, w2, ?_⟩
      rcases w3 with z | z
      · exact .inl (h.new z)
      · obtain ⟨p', hp⟩ := Option.isSome_iff_exists.mp (show (ω a).isSome = true from z)
        exact (h.wg a p' hp).2.2, h2.len, h2.sl, h2.tm, fun k v q => by rw [hpv] at q; cases q⟩
/-- try: statements that store nothing -/
theorem rs_try {R Z : Type} {F : Fc} {s : State} {m : Res R} {N : Rn R} {Rt : Rr R} {Kf : PySem.W.Frag} {c : Value} {i j : Nat} {tb : WX → TS} (ps : List Nat) (ok : Nat → Bool) (S : Z → State) (mb : Res Z) (hz : D → Z) (k : Z → Res R) (em : m = rb (tryM ok mb hz) k)
    (hij : i ≠ j) (hj : j < s.length) (hec : F.ec = EC.ec) (hpv : ∀ k, F.pv k = none) (hok : ∀ k, ok k = true → PySem.W.exmOne Kf (.ref (EC.ec k)) c = some true)
    (hs : ∀ d, Sub ((keepP ps 0 s).set j (some (.f d))) (S (hz d))) (hi2 : (keepP ps 0 s)[i]? = some none)
    (hb : ∀ (F' : Fc) (W : WX), F'.ec = EC.ec → F'.K = F.K → (∀ k, k ∉ ps → F'.pv k = none) → (∀ σ : L2.St, σ.length = s.length → (∀ k v, F'.pv k = some v → σ[k]? = some (some v)) → ∀ c d H', F'.E c d H' → W c d σ H') →
      RS F' [] s mb (tb W) (fun s' m' => ∃ z, m' = .ok z ∧ Sub s' (S z)) (fun _ _ _ => False))
    (hn : ∀ z, N (S z) (k z)) : RS F [] s m (tTry Kf c i j tb) N Rt := fun σ H De hh nf eo nx rt => by
  obtain ⟨F', a1, a2, a3, a4, a5, a6, a7, a8⟩ := try_core ps ok S mb hz k em hij hj hec hpv hok hs hi2 hn hh nf nx
  refine hb F' (wKeep Kf c i j De) a1 a2 a3 a4 σ H De a5 a6 a7 (fun s' σ' H' ⟨z, ez, sb⟩ h1 => ?_) (fun _ _ _ _ _ z => z.elim)
  refine nx _ _ _ ?_ ((a8 _ _ _ _ h1).sub sb)
  rw [em, ez]
  exact hn z
/-- try: x = e -/
theorem rs_trySet {R Z : Type} {F : Fc} {s : State} {m : Res R} {N : Rn R} {Rt : Rr R} {Kf : PySem.W.Frag} {c : Value} {i j x : Nat} {te : WX → TE} (ps : List Nat) (ok : Nat → Bool) (S : Z → State) (mb : Res Z) (hz : D → Z) (k : Z → Res R) (em : m = rb (tryM ok mb hz) k)
    (hij : i ≠ j) (hj : j < s.length) (hec : F.ec = EC.ec) (hpv : ∀ k, F.pv k = none) (hok : ∀ k, ok k = true → PySem.W.exmOne Kf (.ref (EC.ec k)) c = some true)
    (hs : ∀ d, Sub ((keepP ps 0 s).set j (some (.f d))) (S (hz d))) (hi2 : (keepP ps 0 s)[i]? = some none)
    (hb : ∀ (F' : Fc) (W : WX), F'.ec = EC.ec → F'.K = F.K → (∀ k, k ∉ ps → F'.pv k = none) → (∀ σ : L2.St, σ.length = s.length → (∀ k v, F'.pv k = some v → σ[k]? = some (some v)) → ∀ c d H', F'.E c d H' → W c d σ H') →
      RD F' [] s (te W) mb (fun tm s1 m1 => ∃ t z, tm = .own t ∧ m1 = .ok z ∧ x < s1.length ∧ Sub (s1.set x (some t)) (S z)))
    (hn : ∀ z, N (S z) (k z)) : RS F [] s m (tTry Kf c i j fun W => tAsg (te W) (gName x)) N Rt := fun σ H De hh nf eo nx rt => by
  obtain ⟨F', a1, a2, a3, a4, a5, a6, a7, a8⟩ := try_core ps ok S mb hz k em hij hj hec hpv hok hs hi2 hn hh nf nx
  refine hb F' (wKeep Kf c i j De) a1 a2 a3 a4 σ H _ a5 a6 a7 fun tm s' v H' ⟨t, z, e, ez, hl, sb⟩ h1 => ?_
  subst e
  refine nx _ _ _ ?_ ((Holds.store (a8 _ _ _ _ h1) hl rfl (hpv x)).sub sb)
  rw [em, ez]
  exact hn z
end VL

set_option maxHeartbeats 1000000
namespace VL
open PySem L2
/-! the classes of refusals -/
def xname : Nat → Str | 0 => "NetError" | 1 => "NoStanding" | 2 => "NoFit" | 3 => "NoText" | 4 => "NoName" | 5 => "NoRow" | _ => "NoStep"
def clsA (K : PySem.W.Frag) (k : Nat) : Addr := match PySem.W.nsIn K mainGlobals (xname k) with | some (some (.ref c)) => c | _ => 0
def ecOf (P : Program) (w : World) (K : PySem.W.Frag) : EC := ⟨clsA K, P, w⟩
theorem clsA_of {K : PySem.W.Frag} {k : Nat} {c : Addr} (h : PySem.W.nsIn K mainGlobals (xname k) = some (some (.ref c))) : clsA K k = c := by
  unfold clsA; rw [h]
def isub (k j : Nat) : Bool := k == j || j == 0
open PySem.W in
def xOne (K : PySem.W.Frag) (C : Addr) : Bool :=
  (clsIn K C).isSome && (decide (findIn K (.ref C) "__getattribute__" = some (some (.builtin "BaseException.__getattribute__"))) && (decide (findIn K (.ref C) "__getattr__" = some none) && (decide (subIn K (.ref C) (.type "BaseException") = some true) &&
    (decide (findIn K (.ref C) "__class__" = some (some (.builtin "object.__class__"))) && (decide (specialIn K (.builtin "object.__class__") "__get__" = some (some (.builtin "getset_descriptor.__get__"))) &&
      (decide (takesIn K (.builtin "object.__class__") = some true) && (decide (mroIn K C (.type "object") = some true) && (hasDictIn K C && (decide (kitOne K (.ref C) (.type "ValueError") = some true) &&
        (decide (kitOne K (.type "NoneType") (.ref C) = some false) && decide (findIn K (.ref C) "at" = some none)))))))))))
open PySem.W in
def xPair (K : PySem.W.Frag) (C D : Addr) (b : Bool) : Bool := decide (kitOne K (.ref C) (.ref D) = some b) && decide (exmOne K (.ref C) (.ref D) = some b)
def xAll (K : PySem.W.Frag) (ks : List Nat) : Bool := ks.all fun k => xOne K (clsA K k) && ks.all fun j => xPair K (clsA K k) (clsA K j) (isub k j)
open PySem.W in
structure XOne (K : PySem.W.Frag) (C : Addr) : Prop where
  cl : (clsIn K C).isSome = true
  ga : findIn K (.ref C) "__getattribute__" = some (some (.builtin "BaseException.__getattribute__"))
  gg : findIn K (.ref C) "__getattr__" = some none
  su : subIn K (.ref C) (.type "BaseException") = some true
  ha : findIn K (.ref C) "__class__" = some (some (.builtin "object.__class__"))
  hn : specialIn K (.builtin "object.__class__") "__get__" = some (some (.builtin "getset_descriptor.__get__"))
  ht : takesIn K (.builtin "object.__class__") = some true
  hm : mroIn K C (.type "object") = some true
  hd : hasDictIn K C = true
  kv : kitOne K (.ref C) (.type "ValueError") = some true
  kn : kitOne K (.type "NoneType") (.ref C) = some false
  no : findIn K (.ref C) "at" = some none
theorem xOne_ok {K : PySem.W.Frag} {C : Addr} (h : xOne K C = true) : XOne K C := by
  unfold xOne at h
  simp only [Bool.and_eq_true, decide_eq_true_eq] at h
  obtain ⟨h1, h2, h3, h4, h5, h6, h7, h8, h9, h10, h11, h12⟩ := h
  exact ⟨h1, h2, h3, h4, h5, h6, h7, h8, h9, h10, h11, h12⟩
/-- what a text's own classes of refusals are -/
structure XF [EC] (K : PySem.W.Frag) (ks : List Nat) : Prop where
  one : ∀ k ∈ ks, XOne K (EC.ec k)
  kit : ∀ k ∈ ks, ∀ j ∈ ks, PySem.W.kitOne K (.ref (EC.ec k)) (.ref (EC.ec j)) = some (isub k j)
  exm : ∀ k ∈ ks, ∀ j ∈ ks, PySem.W.exmOne K (.ref (EC.ec k)) (.ref (EC.ec j)) = some (isub k j)
theorem xf_mk {P : Program} {w : World} {K : PySem.W.Frag} {ks : List Nat} (h : xAll K ks = true) : @XF (ecOf P w K) K ks := by
  unfold xAll at h
  simp only [List.all_eq_true, Bool.and_eq_true, xPair, decide_eq_true_eq] at h
  exact @XF.mk (ecOf P w K) K ks (fun k hk => xOne_ok (h k hk).1) (fun k hk j hj => ((h k hk).2 j hj).1) (fun k hk j hj => ((h k hk).2 j hj).2)
/-! isinstance(x, C), C a class of refusals or ValueError -/
def rIsX (K : PySem.W.Frag) : List V → Hp → VK → Prop := fun xs H Q => ∃ (x c : V) (t u : Value) (b : Bool), xs = [x, c] ∧ ClsV c u ∧ (TyX K H x t ∨ ∃ a C dd, x = .ref a ∧ t = .ref C ∧ H a = some (exH a C dd) ∧ XOne K C ∧ (dd = none ∨ ∃ dx fs, dd = some dx ∧ H dx = some (.xd fs))) ∧ PySem.W.kitOne K t u = some b ∧ Q (.bl b) H
theorem call_isX {X : Cx} : CallR X (.builtin "isinstance") (rIsX X.K) := by
  intro pins s σ H xs us Q I r h
  obtain ⟨x, c, t, u, b, rfl, k, ty, e, q⟩ := h
  rcases ty with ty | ⟨a, C, dd, rfl, rfl, ha, hC, hdd⟩
  · exact call_isi pins s σ H [x, c] us Q I r ⟨x, c, t, u, b, rfl, k, ty, e, q⟩
  · obtain ⟨u1, u2, rfl, r1, r2⟩ := L2.vals2 r
    have e2 := k.eq r2
    subst e2
    cases (show u1 = Value.ref a from r1)
    obtain ⟨oe, vs, o1, o2, o3⟩ := exH_at I.hok ha
    have nc : PySem.W.notCls oe = true := by unfold PySem.W.notCls; rw [o3] <;> rfl
    rcases hdd with rfl | ⟨dx, fs, rfl, hx⟩
    · have J : PySem.W.InstAt s.heap a oe C none := ⟨o1, o2.1, nc, by rw [o2.2]; trivial⟩
      exact PySem.W.kia_one (PySem.W.kitx_exc hC.cl hC.ga hC.gg hC.su hC.ha hC.hn hC.ht hC.hm) I.kIn J e (fun z => by cases z) fun tk => ⟨.bl b, H, I.tok tk, rfl, q⟩
    · obtain ⟨mA, hns, hr⟩ := (show ObjOk X.prog X.w H s.heap dx (.xd fs) from I.hok dx _ hx)
      obtain ⟨od, ho, hl⟩ := L2.lookIn_ns hns
      have J : PySem.W.InstAt s.heap a oe C (some od) := ⟨o1, o2.1, nc, by rw [o2.2]; exact ho⟩
      exact PySem.W.kia_one (PySem.W.kitx_exc hC.cl hC.ga hC.gg hC.su hC.ha hC.hn hC.ht hC.hm) I.kIn J e (fun z => by cases z) fun tk => ⟨.bl b, H, I.tok tk, rfl, q⟩
theorem call_isXK {X : Cx} {Kf : PySem.W.Frag} (hK : X.K = Kf) : CallR X (.builtin "isinstance") (rIsX Kf) := by subst hK; exact call_isX
variable [EC]
section
variable {R : Type} {F : Fc} {tmp : Tmp} {s : State} {m : Res R} {K : Rs R} {ta : TE} {Kf : PySem.W.Frag}
def isX (ks : List Nat) (j : Nat) : D → Option Bool | .non => some false | .exc k _ => if ks.contains k = true then some (isub k j) else none | _ => none
theorem rd_isX {ks : List Nat} {j : Nat} (T : XF Kf ks) (hj : j ∈ ks) (h : RD F tmp s ta m (fun tm1 s1 m1 => ∃ a k, valT s1 tm1 = some a ∧ m1 = ob (isX ks j a) k ∧ ∀ c, K (.own (.f (.bl c))) s1 (k c))) :
    RD F tmp s (tCB (rIsX Kf) (tCons ta (tCons (tC (.ref (EC.ec j))) tNil))) m K := fun σ H Q hh nf eo q =>
  h σ H _ hh nf eo fun tm1 s1 x H1 ⟨a, k, ea, em, hk⟩ h1 => by
    obtain ⟨c, ec, em'⟩ := ob_cases (by rw [← em]; exact nf)
    have h3 := h1
    obtain ⟨G, ω, h2⟩ := h1
    have r := h2.repT h2.tm.1 ea
    have fin := q _ s1 _ H1 (by rw [em, em']; exact hk c) (holds_bl (b := c) h3.pop)
    cases a <;> try (cases ec; done)
    · cases ec
      rw [show x = .non from r]
      exact ⟨.non, .ref (EC.ec j), .type "NoneType", .ref (EC.ec j), false, rfl, .own _, .inl (.base .non), (T.one j hj).kn, fin⟩
    · rename_i kx l
      simp only [isX] at ec
      split at ec
      · rename_i hc
        cases ec
        have hk2 : kx ∈ ks := by simpa using hc
        obtain ⟨a, dd, us, e1, e2, e3, e4⟩ := r
        subst e1
        refine ⟨.ref a, .ref (EC.ec j), .ref (EC.ec kx), .ref (EC.ec j), isub kx j, rfl, .own _, .inr ⟨a, EC.ec kx, dd, rfl, rfl, e2, T.one kx hk2, ?_⟩, T.kit kx hk2 j hj, fin⟩
        rcases e4 with ⟨_, e⟩ | ⟨u, dx, _, e, e5⟩
        · exact .inl e
        · exact .inr ⟨dx, _, e, e5⟩
      · cases ec
def isV (ks : List Nat) : D → Option Bool | .non => some false | .exc k _ => if ks.contains k = true then some true else none | _ => none
theorem rd_isV {ks : List Nat} (T : XF Kf ks) (h : RD F tmp s ta m (fun tm1 s1 m1 => ∃ a k, valT s1 tm1 = some a ∧ m1 = ob (isV ks a) k ∧ ∀ c, K (.own (.f (.bl c))) s1 (k c))) :
    RD F tmp s (tCB (rIsX Kf) (tCons ta (tCons (tC (.ty "ValueError")) tNil))) m K := fun σ H Q hh nf eo q =>
  h σ H _ hh nf eo fun tm1 s1 x H1 ⟨a, k, ea, em, hk⟩ h1 => by
    obtain ⟨c, ec, em'⟩ := ob_cases (by rw [← em]; exact nf)
    have h3 := h1
    obtain ⟨G, ω, h2⟩ := h1
    have r := h2.repT h2.tm.1 ea
    have fin := q _ s1 _ H1 (by rw [em, em']; exact hk c) (holds_bl (b := c) h3.pop)
    cases a <;> try (cases ec; done)
    · cases ec
      rw [show x = .non from r]
      exact ⟨.non, .ty "ValueError", .type "NoneType", .type "ValueError", false, rfl, .ty _, .inl (.base .non), kit_ty (by decide +kernel), fin⟩
    · rename_i kx l
      simp only [isV] at ec
      split at ec
      · rename_i hc
        cases ec
        have hk2 : kx ∈ ks := by simpa using hc
        obtain ⟨a, dd, us, e1, e2, e3, e4⟩ := r
        subst e1
        refine ⟨.ref a, .ty "ValueError", .ref (EC.ec kx), .type "ValueError", true, rfl, .ty _, .inr ⟨a, EC.ec kx, dd, rfl, rfl, e2, T.one kx hk2, ?_⟩, (T.one kx hk2).kv, fin⟩
        rcases e4 with ⟨_, e⟩ | ⟨u, dx, _, e, e5⟩
        · exact .inl e
        · exact .inr ⟨dx, _, e, e5⟩
      · cases ec
end
/-! e.at -/
def tAt (K : PySem.W.Frag) (te : TE) : TE := fun σ H Q => te σ H fun x H1 => ∃ a C dx v, x = .ref a ∧ H1 a = some (exH a C (some dx)) ∧ XOne K C ∧ H1 dx = some (.xd [("at", v)]) ∧ Q v H1
omit [EC] in
theorem pe_at {X : Cx} {Kf : PySem.W.Frag} {e : Expr} {te : TE} {pos : Pos} (hK : X.K = Kf) (he : PE X e te) (hb : attributeBase e "at" X.env (eval e X.env) = eval e X.env := by rfl) : PE X (.Attribute e "at" pos) (tAt Kf te) := by
  subst hK
  refine ⟨fun pins s σ H Q I h => ?_⟩
  refine attr_of hb (thn (he.run pins s σ H _ I h) fun u s1 hh => ?_)
  obtain ⟨x, H1, I1, rx, a, C, dx, v, ex, ha, hC, hx, q⟩ := hh
  subst ex
  obtain rfl : u = Value.ref a := rx
  obtain ⟨oe, vs, o1, o2, o3⟩ := exH_at I1.hok ha
  have nc : PySem.W.notCls oe = true := by unfold PySem.W.notCls; rw [o3] <;> rfl
  obtain ⟨mA, hns, hr⟩ := (show ObjOk X.prog X.w H1 s1.heap dx (.xd [("at", v)]) from I1.hok dx _ hx)
  obtain ⟨od, ho, hl⟩ := L2.lookIn_ns hns
  have lk : List.lookup ("at" : Str) [(("at" : Str), v)] = some v := by simp [List.lookup]
  obtain ⟨u, hu, ru⟩ := RelO.some_of (v := v) (o := mA "at") (by rw [← lk]; exact hr "at")
  have J : PySem.W.InstAt s1.heap a oe C (some od) := ⟨o1, o2.1, nc, by rw [o2.2]; exact ho⟩
  exact HandSPX.exc_get I1.kIn J hC.ga hC.gg hC.su (PySem.W.findObj_own hC.hd hC.no rfl (by rw [hl, hu])) (handed_of ru) ⟨v, H1, I1.tok _, ru, q⟩
section
variable {R : Type} {F : Fc} {tmp : Tmp} {s : State} {m : Res R} {K : Rs R} {ta : TE} {Kf : PySem.W.Frag}
def atD (ks : List Nat) : D → Option D | .exc k [d] => if ks.contains k = true then some d else none | _ => none
theorem rd_at {ks : List Nat} (T : XF Kf ks) (h : RD F tmp s ta m (fun tm1 s1 m1 => ∃ a k, tm1 = .own (.f a) ∧ m1 = ob (atD ks a) k ∧ ∀ c, K (.own (.f c)) s1 (k c))) : RD F tmp s (tAt Kf ta) m K := fun σ H Q hh nf eo q =>
  h σ H _ hh nf eo fun tm1 s1 x H1 ⟨a, k, ea, em, hk⟩ h1 => by
    obtain ⟨c, ec, em'⟩ := ob_cases (by rw [← em]; exact nf)
    subst ea
    obtain ⟨G, ω, h2⟩ := h1
    have r : Rep G a x := h2.tm.1
    obtain ⟨kx, l, ea⟩ : ∃ kx l, a = .exc kx l := by
      cases a <;> first | exact ⟨_, _, rfl⟩ | cases ec
    subst ea
    match l, ec, r with
    | [d], ec, r =>
      simp only [atD] at ec
      split at ec
      · rename_i hc
        cases ec
        have hk2 : kx ∈ ks := by simpa using hc
        obtain ⟨a, dd, us, e1, e2, e3, e4⟩ := r
        subst e1
        rcases e4 with ⟨e, _⟩ | ⟨u, dx, e, e5, e6⟩
        · subst e
          obtain ⟨_, _, z, _⟩ := e3
          cases z
        · subst e
          obtain ⟨v, r', e7, e8, _⟩ := e3
          cases e7
          subst e5
          exact ⟨a, EC.ec kx, dx, u, rfl, h2.gH _ _ e2, T.one kx hk2, h2.gH _ _ e6, q _ s1 u H1 (by rw [em, em']; exact hk _) ⟨G, ω, h2.pop.pushF e8⟩⟩
      · cases ec
    | [], ec, r => cases ec
    | _ :: _ :: _, ec, r => cases ec
end
end VL

namespace VL
open PySem L2
def clsB : Stmt → List Stmt | .ClassDef _ _ _ b _ _ _ _ _ _ _ => b | _ => []
/-- the law, behind its top -/
theorem walk_ofE {l : PySem.W.OpenLaw} {k : Nat} {q : Program} {loose : List Str} {XP : (Str → Option Value) → Heap → Prop} {YP : World → Heap → Prop} {d : DefRec} {K : Params → PySem.W.Frag} {mir : D → Res D}
    (hn : l.most = some 63) (hdf : d.params.defaults = []) (hr : Room k callerA) (hY : ∀ (w : World) (h : Heap), YP w h → (K w.params).In h)
    (F : ∀ (w : World) (mg : Str → Option Value) (fa : Addr) (h : Heap), (K w.params).In h → h.Ns mainGlobals mg → mg d.name = some (.ref fa) →
      ∃ fd : FuncData, (∀ (s : Shared) (u : Value), BindsTo s fd ⟨[u], []⟩ [("script", u)]) ∧
        ∀ base : Heap, (K w.params).In base → base.Ns mainGlobals mg → FnOk l.prog w (K w.params) mg base CX0 k fa fd ["script"] (@spOf (ecOf l.prog w (K w.params)) D D (@EC.ec (ecOf l.prog w (K w.params))) (fun a => [.f a]) mir (fun r => .f r) fun _ => [none]))
    (hno : ∀ w : World, ((K w.params).all fun p => noL p.2) = true) (hm : ∀ ns : List Int, ns.length ≤ 63 → mir (.lst (ns.map .int)) = .ok (.bl true)) :
    PySem.W.WalkO q loose XP YP l.row.toRowW d [] (fun f vs => PySem.call f vs) :=
  walk_of (n := 63) (CX := fun _ => CX0) (sp := fun w => @spOf (ecOf l.prog w (K w.params)) D D (@EC.ec (ecOf l.prog w (K w.params))) (fun a => [.f a]) mir (fun r => .f r) fun _ => [none]) hn (by decide) hdf hr hY F
    (fun w H a ns hl _ hS => @law_end (ecOf l.prog w (K w.params)) (K w.params) H a ns _ mir (hno w) hl hS (hm ns hl)) (fun _ _ _ _ _ h => h)
end VL
namespace VL
open PySem L2
theorem xf_exm [EC] {K : PySem.W.Frag} {ks ok : List Nat} {j : Nat} (T : XF K ks) (hj : j ∈ ks) (h : (ok.all fun k => ks.contains k && isub k j) = true) : ∀ k, ok.contains k = true → PySem.W.exmOne K (.ref (EC.ec k)) (.ref (EC.ec j)) = some true := fun k hk => by
  have := List.all_eq_true.mp h k (by simpa using hk)
  simp only [Bool.and_eq_true] at this
  rw [T.exm k (by simpa using this.1) j hj, this.2]
end VL

namespace VL
open PySem L2 PySem.Spec PyProof.Rows
def isbD : D → D → Option Bool | .bl a, .bl b => some (decide (a = b)) | _, _ => none
def notbD : D → D → Option Bool | .bl a, .bl b => some (!decide (a = b)) | _, _ => none
def tupleD : D → Option D | .lst l => some (.tup l) | .str x => if x.length ≤ 1000 then some (.tup (strL x)) else none | _ => none
def listSD : D → Option (List D) | .str x => if x.length ≤ 1000 then some (strL x) else none | _ => none
def countD (l x : D) : Option D := match l, x with
  | .lst l, .str x => (strsD l).map fun ys => .int ((ys.countP fun y => y == x : Nat) : Int)
  | _, _ => none
variable [EC]
theorem o_isb : Op2B rIsB isbD := fun H x y a b c Q ra rb e q => by
  cases a <;> cases b <;> try (cases e; done)
  cases e
  exact ⟨_, _, ra, rb, q⟩
theorem o_notb : Op2B rNotB notbD := fun H x y a b c Q ra rb e q => by
  cases a <;> cases b <;> try (cases e; done)
  cases e
  exact ⟨_, _, ra, rb, q⟩
def charsV (a : Str) : List V := a.cps.toList.map fun c => V.str ⟨#[c]⟩
def rTuple (K : PySem.W.Frag) : List V → Hp → VK → Prop := fun xs H Q => (∃ p ys, xs = [V.ref p] ∧ SqL K H p ys ∧ ∀ l, H l = none → Q (.ref l) (upd H l (.tup ys))) ∨ ∃ a : Str, xs = [.str a] ∧ a.length ≤ sizeLine ∧ ∀ p, H p = none → Q (.ref p) (upd H p (.tup (charsV a)))
def rListS : List V → Hp → VK → Prop := fun xs H Q => ∃ a : Str, xs = [.str a] ∧ a.length ≤ sizeLine ∧ ∀ p, H p = none → Q (.ref p) (upd H p (.lst (charsV a)))
theorem vals_signs {x : Str} {acc : Array Value} (h : ItemsOf (SignAt x) acc x.cps.size) : Vals (charsV x) acc.toList := by
  refine vals_of_at (by simp [charsV, h.1]) fun j y u h1 h2 => ?_
  obtain ⟨c, t, hc, rfl⟩ := h.2 j u (by rw [← h2, Array.getElem?_toList])
  simp only [charsV, List.getElem?_map, Array.getElem?_toList, hc] at h1
  cases h1
  exact ⟨t, rfl⟩
theorem reps_strL {G : Hp} : ∀ x : List Nat, Reps G (strL x) (x.map fun c => V.str ⟨#[c]⟩)
  | [] => rfl
  | c :: r => ⟨_, _, rfl, rfl, reps_strL r⟩
section
variable {X : Cx} {Kf : PySem.W.Frag}
theorem call_tupleK (hK : X.K = Kf) (hc : X.calm = true) : CallR X (.type "tuple") (rTuple Kf) := by
  subst hK
  intro pins s σ H xs us Q I r h
  rcases h with ⟨p, ys, e, hq, q⟩ | ⟨a, rfl, hz, q⟩
  · exact call_tuple_of pins s σ H xs us Q I r ⟨p, ys, e, .inl ⟨hq, q⟩⟩
  · obtain ⟨u, rfl, t, rfl⟩ := vals1 r
    refine call_tuple_str (I.ok.hd hc) a t (fun h' tk acc kp hacc => ?_) hz
    have I1 : Inv X pins σ H { s with heap := h', toks := tk } := I.kept (t' := tk) kp
    have I2 : Inv X pins σ (upd H h'.objs.size (.tup (charsV a))) { s with heap := h'.push { cls := .type "tuple", data := .seq acc }, toks := tk } :=
      I1.laid (t' := tk) (fun b o e => Heap.get?_push_of_some _ e) (Nat.le_refl _) (show ObjOk X.prog X.w _ _ _ (.tup (charsV a)) from ⟨by simpa [charsV, Str.length] using hz, acc.toList, vals_signs hacc, by simpa using IsTup.new h' acc⟩)
    exact ⟨.ref h'.objs.size, _, I2, rfl, q _ (I1.hok.fresh (Nat.le_refl _))⟩
theorem call_listSK (hc : X.calm = true) : CallR X (.type "list") rListS := by
  intro pins s σ H xs us Q I r h
  obtain ⟨a, rfl, hz, q⟩ := h
  obtain ⟨u, rfl, t, rfl⟩ := vals1 r
  refine call_list_str (I.ok.hd hc) a t (fun h' tk acc c kp e hacc => ?_) hz
  exact ⟨.ref s.heap.objs.size, _, I.laid (t' := tk) kp (Nat.le_refl _) (show ObjOk X.prog X.w _ h' _ (.lst (charsV a)) from ⟨by simpa [charsV, Str.length] using hz, acc.toList, c, vals_signs hacc, by simpa using e⟩), rfl, q _ (I.hok.fresh (Nat.le_refl _))⟩
end
theorem o_listS : Op1L (fun x H Q => rListS [x] H Q) listSD := fun G H x a c Q sm ra e => by
  cases a <;> try (cases e; done)
  rename_i a
  simp only [listSD] at e
  split at e
  · rename_i hx
    cases e
    refine ⟨by rw [sizeLine_eq]; simp [strL]; omega, fun q => ⟨mkS a, by rw [show x = _ from ra], by rw [mkS_len, sizeLine_eq]; omega, fun p np => q p _ np ?_⟩⟩
    show Reps G _ ((mkS a).cps.toList.map _)
    rw [mkS_cps]
    exact reps_strL a
  · cases e
def rCount (K : PySem.W.Frag) : V → List V → Hp → VK → Prop := fun x xs H Q => ∃ (p : Addr) (ys : List Str) (k : Str), x = .ref p ∧ xs = [.str k] ∧ SqL K H p (ys.map V.str) ∧ Q (.int (ys.countP (fun y => y == k) : Nat)) H
def eqs (k : Str) (v : Value) : Bool := match v with
  | .str n _ => n.cps.toList == k.cps.toList
  | _ => false
theorem str_beq (a b : Str) : (a == b) = (a.cps.toList == b.cps.toList) := by
  rw [← mkS_of a, ← mkS_of b, mkS_beq, mkS_cps, mkS_cps]
theorem eqs_gives {k : Str} {t : Tok} : ∀ {us : List Value} {ns : List Str}, StrsAre us ns → ∀ y ∈ us, MeetsSeq.EqGives y (.str k t) (eqs k y)
  | _, _, .nil => fun y hy => by cases hy
  | _, _, .cons n t' h => fun y hy => by
    rcases List.mem_cons.mp hy with e | e
    · rw [e]
      exact PySem.SeqRoads2.EqGives.str n k t' t
    · exact eqs_gives h y e
theorem eqs_count {k : Str} : ∀ {us : List Value} {ns : List Str}, StrsAre us ns → us.countP (eqs k) = ns.countP fun y => y == k
  | _, _, .nil => rfl
  | _, _, .cons n t h => by
    have ih := eqs_count (k := k) h
    rw [List.countP_cons, List.countP_cons, ih]
    show _ + (if (n.cps.toList == k.cps.toList) = true then 1 else 0) = _ + (if (n == k) = true then 1 else 0)
    rw [str_beq]
section
variable {X : Cx} {Kf : PySem.W.Frag}
theorem mt_countK (hK : X.K = Kf) : MtR X "list.count" (rCount Kf) := by
  subst hK
  intro pins s σ H x xs v us Q I rx rxs h
  obtain ⟨p, ns, k, rfl, rfl, hs, q⟩ := h
  cases rx
  obtain ⟨u, rfl, ru⟩ := rxs.one
  obtain ⟨t, rfl⟩ := ru
  obtain ⟨its, rv, ⟨⟨cls, dd, data, sl⟩, n, ho, hc, hdn, hd⟩, hlen⟩ := I.list hs
  simp only at hc hd
  subst hc hd
  have hi := Vals.strs rv
  refine call_meets PySem.F.slot_list_count ⟨_, ho, rfl⟩ PySem.F.entry_list_count (PySem.F.args_list_count_2 _ _)
    (SeqAt.list_countAt p its.toArray n dd sl (.str k t) (eqs k)) ⟨ho, fun y hy => (eqs_gives hi y (by simpa using hy)).at _ _, ?_⟩
  have ec : its.toArray.toList.countP (eqs k) = ns.countP fun y => y == k := eqs_count hi
  refine ⟨.int (ns.countP (fun y => y == k) : Nat), H, I.tok _, ⟨s.toks, ?_⟩, q⟩
  show Value.int ((its.toArray.toList.countP (eqs k) : Nat) : Int) s.toks = Value.int ((ns.countP (fun y => y == k) : Nat) : Int) s.toks
  rw [ec]
end
section
variable {R : Type} {F : Fc} {tmp : Tmp} {s : State} {m : Res R} {K : Rs R} {N : Rn R} {Rt : Rr R} {ta tb tc to te td ty tx : TE} {Kf : PySem.W.Frag}
theorem rt_chain {r r' : R2} {op op' : D → D → Option Bool} {K : Bool → State → Res R → Prop} (ho : Op2B r op) (ho' : Op2B r' op')
    (h : RD F tmp s ta m (fun tm1 s1 m1 => ∀ x, RD F ((x, tm1) :: tmp) s1 tb m1 (fun tm2 s2 m2 => ∃ a b kk, valT s2 tm1 = some a ∧ valT s2 tm2 = some b ∧ m2 = ob (op a b) kk ∧
      ∀ c : Bool, ∃ (ma : Res Bool) (k : Bool → Res R), kk c = rb (if c = true then ma else .ok false) k ∧
        (c = true → ∀ y, RD F ((y, tm2) :: (x, tm1) :: tmp) s2 tc ma (fun tm3 s3 m3 => ∃ b' d, valT s3 tm2 = some b' ∧ valT s3 tm3 = some d ∧ m3 = ob (op' b' d) (fun e => .ok e) ∧ Sub s3 s2)) ∧ ∀ e, K e s2 (k e)))) :
    RT F tmp s m (tTest (tChain r r' ta tb tc)) K := fun σ H Q hh nf eo q =>
  h σ H _ hh nf eo fun tm1 s1 x H1 h2 h1 => h2 x σ H1 _ h1 nf eo fun tm2 s2 y H2 ⟨a, b, kk, ea, eb, em, hk⟩ h3 => by
    obtain ⟨c, ec, em'⟩ := ob_cases (by rw [← em]; exact nf)
    have h4 := h3
    obtain ⟨G, ω, h3⟩ := h3
    obtain ⟨ma, k, ek, hu, hk⟩ := hk c
    rw [← em', ← em] at ek
    refine ho H2 x y a b c _ (h3.repT h3.tm.2.1 ea) (h3.repT h3.tm.1 eb) ec ⟨c, rfl, ?_⟩
    cases c with
    | false =>
      simp only [Bool.false_eq_true, if_false] at ek ⊢
      exact ⟨false, rfl, q false s2 H2 (by rw [ek]; exact hk false) h4.pop.pop⟩
    | true =>
      simp only [if_true] at ek ⊢
      have nf' : ma ≠ .fail := fun z => nf (by rw [ek, z]; rfl)
      refine hu rfl y σ H2 _ h4 nf' (eo.of fun e he => by rw [ek, he]; rfl) fun tm3 s3 z H3 ⟨b', d, eb', ed, em3, sb⟩ h5 => ?_
      obtain ⟨e, ee, em3'⟩ := ob_cases (by rw [← em3]; exact nf')
      have h6 := h5
      obtain ⟨G5, ω5, h5⟩ := h5
      exact ho' H3 y z b' d e _ (h5.repT h5.tm.2.1 eb') (h5.repT h5.tm.1 ed) ee ⟨e, rfl, q e s2 H3 (by rw [ek, em3, em3']; exact hk e) (h6.pop.pop.pop.sub sb)⟩
theorem rd_chain {r r' : R2} {op op' : D → D → Option Bool} (ho : Op2B r op) (ho' : Op2B r' op')
    (h : RD F tmp s ta m (fun tm1 s1 m1 => ∀ x, RD F ((x, tm1) :: tmp) s1 tb m1 (fun tm2 s2 m2 => ∃ a b kk, valT s2 tm1 = some a ∧ valT s2 tm2 = some b ∧ m2 = ob (op a b) kk ∧
      ∀ c : Bool, ∃ (ma : Res Bool) (k : Bool → Res R), kk c = rb (if c = true then ma else .ok false) k ∧
        (c = true → ∀ y, RD F ((y, tm2) :: (x, tm1) :: tmp) s2 tc ma (fun tm3 s3 m3 => ∃ b' d, valT s3 tm2 = some b' ∧ valT s3 tm3 = some d ∧ m3 = ob (op' b' d) (fun e => .ok e) ∧ Sub s3 s2)) ∧ ∀ e, K (.own (.f (.bl e))) s2 (k e)))) :
    RD F tmp s (tChain r r' ta tb tc) m K := fun σ H Q hh nf eo q =>
  h σ H _ hh nf eo fun tm1 s1 x H1 h2 h1 => h2 x σ H1 _ h1 nf eo fun tm2 s2 y H2 ⟨a, b, kk, ea, eb, em, hk⟩ h3 => by
    obtain ⟨c, ec, em'⟩ := ob_cases (by rw [← em]; exact nf)
    have h4 := h3
    obtain ⟨G, ω, h3⟩ := h3
    obtain ⟨ma, k, ek, hu, hk⟩ := hk c
    rw [← em', ← em] at ek
    refine ho H2 x y a b c _ (h3.repT h3.tm.2.1 ea) (h3.repT h3.tm.1 eb) ec ⟨c, rfl, ?_⟩
    cases c with
    | false =>
      simp only [Bool.false_eq_true, if_false] at ek ⊢
      exact q _ s2 _ H2 (by rw [ek]; exact hk false) (holds_bl h4.pop.pop)
    | true =>
      simp only [if_true] at ek ⊢
      have nf' : ma ≠ .fail := fun z => nf (by rw [ek, z]; rfl)
      refine hu rfl y σ H2 _ h4 nf' (eo.of fun e he => by rw [ek, he]; rfl) fun tm3 s3 z H3 ⟨b', d, eb', ed, em3, sb⟩ h5 => ?_
      obtain ⟨e, ee, em3'⟩ := ob_cases (by rw [← em3]; exact nf')
      have h6 := h5
      obtain ⟨G5, ω5, h5⟩ := h5
      exact ho' H3 y z b' d e _ (h5.repT h5.tm.2.1 eb') (h5.repT h5.tm.1 ed) ee (q _ s2 _ H3 (by rw [ek, em3, em3']; exact hk e) (holds_bl (h6.pop.pop.pop.sub sb)))
theorem rs_onN {Z R' : Type} {z : Z} {f : Z → Res R} {g : R' → Res R} {tb : TS} (h : RS F tmp s (f z) tb N Rt) : RS F tmp s (Fl.on (.nx z) f g) tb N Rt := h
theorem rs_frz (i : Nat) {t : T} {tb : TS} (s' : State) (h : s[i]? = some (some t)) (e : s.set i (some (.f t.er)) = s') (k : RS F tmp s' m tb N Rt) : RS F tmp s m tb N Rt := by
  subst e
  exact fun σ H De hh nf eo nx rt => k σ H De (hh.frzSlot h) nf eo nx rt
/-! tuple(..), list(..) -/
theorem rd_tupL (h : RD F tmp s ta m (fun tm1 s1 m1 => ∃ a k, valS s1 tm1 = some a ∧ m1 = ob (tupleD a) k ∧ ∀ c, K (.own (.f c)) s1 (k c))) : RD F tmp s (tCB (rTuple Kf) (tCons ta tNil)) m K := fun σ H Q hh nf eo q =>
  h σ H _ hh nf eo fun tm1 s1 x H1 ⟨a, k, ea, em, hk⟩ h1 => by
    obtain ⟨c, ec, em'⟩ := ob_cases (by rw [← em]; exact nf)
    obtain ⟨G, ω, h1⟩ := h1
    have r := h1.repC h1.tm.1 ea
    cases a <;> try (cases ec; done)
    · rename_i x
      simp only [tupleD] at ec
      split at ec
      · rename_i hx
        cases ec
        refine .inr ⟨mkS x, congrArg (fun v => [v]) r, by rw [mkS_len, sizeLine_eq]; omega, fun p np => ?_⟩
        refine q _ s1 _ _ (by rw [em, em']; exact hk _) (h1.pop.newT np (by rw [sizeLine_eq]; simp [strL]; omega) ?_)
        show Reps G _ ((mkS x).cps.toList.map _)
        rw [mkS_cps]
        exact reps_strL x
      · cases ec
    · cases ec
      obtain ⟨p, vs, e, g, z, rr⟩ := r
      subst e
      exact .inl ⟨p, vs, rfl, .inl g, fun l nl => q _ s1 _ _ (by rw [em, em']; exact hk _) (h1.pop.newT nl z rr)⟩
/-! list.count of texts -/
theorem rd_count (h : RD F tmp s to m (fun tm1 s1 m1 => ∃ d k, valS s1 tm1 = some d ∧ m1 = ob (asLst d) k ∧ ∀ l0 x, RD F ((x, tm1) :: tmp) s1 te (k l0) (fun tm2 s2 m2 => ∃ a b k, valS s2 tm1 = some a ∧ valS s2 tm2 = some b ∧ m2 = ob (countD a b) k ∧ ∀ c, K (.own (.f c)) s2 (k c)))) :
    RD F tmp s (tBM Kf "list" (rCount Kf) to (tCons te tNil)) m K := fun σ H Q hh nf eo q =>
  h σ H _ hh nf eo fun tm1 s1 x H1 ⟨d, k0, e0, em0, h2⟩ h1 => by
    obtain ⟨l0, ed, em0'⟩ := ob_cases (by rw [← em0]; exact nf)
    rw [asLst_eq ed] at e0
    have ht : tyV Kf "list" x H1 := by
      obtain ⟨G, ω, h3⟩ := h1
      obtain ⟨a, vs, e, g, z, r⟩ := h3.repC h3.tm.1 e0
      subst e
      exact .inl ⟨rfl, vs, .inl g⟩
    have h2' := h2 l0 x
    rw [← em0', ← em0] at h2'
    refine ⟨ht, h2' σ H1 _ h1 nf eo fun tm2 s2 y H2 ⟨a, b, k, ea, eb, em, hk⟩ h3 => ?_⟩
    obtain ⟨c, ec, em'⟩ := ob_cases (by rw [← em]; exact nf)
    have h5 := h3
    obtain ⟨G, ω, h4⟩ := h3
    have ra := h4.repC h4.tm.2.1 ea
    have rb := (h4.repC h4.tm.1 eb).toR h4.gH
    cases a <;> try (cases ec; done)
    cases b <;> try (cases ec; done)
    rename_i l y0
    simp only [countD] at ec
    cases e2 : strsD l with
    | none => rw [e2] at ec; cases ec
    | some ys =>
      rw [e2] at ec
      cases ec
      obtain ⟨p, vs, e, g, z, r⟩ := ra
      have hv := strs_ok e2 r
      subst e
      refine ⟨p, ys.map mkS, mkS y0, rfl, by rw [show y = _ from rb], .inl (by rw [← hv]; exact g), ?_⟩
      refine q _ s2 _ _ (by rw [em, em']; exact hk _) ?_
      rw [show (ys.map mkS).countP (fun y => y == mkS y0) = ys.countP fun y => y == y0 by rw [List.countP_map]; congr 1; funext y; exact mkS_beq _ _]
      exact ⟨G, ω, h4.pop.pop.pushF (d := .int _) rfl⟩
end
end VL

namespace VL
open PySem L2 PySem.W PyProof.Rows
mutual
def py : D → PyData
  | .non => .none
  | .bl b => .bool b
  | .int i => .int i
  | .str x => .str (mkS x)
  | .tup l => .tuple (pys l)
  | .lst l => .list (pys l)
  | _ => .none
def pys : List D → List PyData
  | [] => []
  | a :: r => py a :: pys r
end
theorem pys_map : ∀ l : List D, pys l = l.map py
  | [] => rfl
  | a :: r => by rw [pys, pys_map r]; rfl
mutual
theorem py_depth : ∀ d : D, d.plain = true → (py d).depth ≤ d.dep
  | .non, _ => by simp [py, PyData.depth, D.dep]
  | .bl b, _ => by simp [py, PyData.depth, D.dep]
  | .int i, _ => by simp [py, PyData.depth, D.dep]
  | .str x, _ => by simp [py, PyData.depth, D.dep]
  | .tup l, p => by have := pys_depth l p; simp [py, PyData.depth, D.dep]; omega
  | .lst l, p => by have := pys_depth l p; simp [py, PyData.depth, D.dep]; omega
  | .dct _ _, p => by cases p
  | .opq _, p => by cases p
  | .exc _ _, p => by cases p
  | .fd _ _ _, p => by cases p
theorem pys_depth : ∀ l : List D, D.plains l = true → PyData.depthAll (pys l) ≤ D.deps l
  | [], _ => by simp [pys, PyData.depthAll, D.deps]
  | a :: r, p => by
    simp only [D.plains, Bool.and_eq_true] at p
    have h1 := py_depth a p.1
    have h2 := pys_depth r p.2
    simp [pys, PyData.depthAll, D.deps]; omega
end
def alikes (l : List D) : Bool := l.all fun x => l.all fun y => alike (py x) (py y)
def isTupD : D → Bool | .tup (_ :: _) => true | _ => false
def noTupD : D → Bool | .tup _ => false | .non => false | _ => true
def sortOk (l : List D) : Bool := D.plains l && decide (D.deps l ≤ 60) && alikes l && (l.all isTupD || l.all noTupD) && decide (l.length ≤ 16777216)
def leD' : D → D → Bool := dataLe false py
def sortD : D → Option (List D) | .lst l => if sortOk l = true then some (l.mergeSort leD') else none | _ => none
variable [EC]
section
variable {X : Cx} {pins : List (Addr × Obj)} {σ : List (Option V)} {H : Hp} {s : Shared}
mutual
theorem rep_reads (I : Inv X pins σ H s) : ∀ (d : D) (x : V) (u : Value), d.plain = true → Rep H d x → RelV x u → ∃ as, Reads s.heap u (py d) as
  | .non, x, u, _, h, r => by
    cases (show x = .non from h); cases r; exact ⟨[], .none⟩
  | .bl b, x, u, _, h, r => by
    cases (show x = .bl b from h); cases r; exact ⟨[], .bool _⟩
  | .int i, x, u, _, h, r => by
    cases (show x = .int i from h); obtain ⟨t, rfl⟩ := r; exact ⟨[], .int _ _⟩
  | .str y, x, u, _, h, r => by
    cases (show x = .str (mkS y) from h); obtain ⟨t, rfl⟩ := r; exact ⟨[], .str _ _⟩
  | .tup l, x, u, p, h, r => by
    obtain ⟨a, vs, its, ea, eu, ht, v1, q1, n1⟩ := at_tup I h r
    obtain ⟨o, ho, hc, n, hd⟩ := ht
    obtain ⟨as, rs⟩ := reps_reads I l vs its p q1 v1
    rw [eu]
    exact ⟨as, .tuple ho hc hd (by simpa using rs)⟩
  | .lst l, x, u, p, h, r => by
    obtain ⟨a, vs, its, ea, eu, ht, v1, q1, n1⟩ := at_lst I h r
    obtain ⟨o, ho, hc, n, hd⟩ := ht
    obtain ⟨as, rs⟩ := reps_reads I l vs its p q1 v1
    rw [eu]
    exact ⟨a :: as, .list ho hc hd (by simpa using rs)⟩
  | .dct _ _, _, _, p, _, _ => by cases p
  | .opq _, _, _, p, _, _ => by cases p
  | .exc _ _, _, _, p, _, _ => by cases p
  | .fd _ _ _, _, _, p, _, _ => by cases p
theorem reps_reads (I : Inv X pins σ H s) : ∀ (l : List D) (xs : List V) (us : List Value), D.plains l = true → Reps H l xs → Vals xs us → ∃ as, ReadsAll s.heap us (pys l) as
  | [], xs, us, _, h, r => by
    cases (show xs = [] from h); cases r; exact ⟨[], .nil⟩
  | d :: l, xs, us, p, ⟨x, r0, e, h, q⟩, r => by
    subst e
    simp only [D.plains, Bool.and_eq_true] at p
    cases r with
    | cons z1 v1 =>
      obtain ⟨as, h1⟩ := rep_reads I d x _ p.1 h z1
      obtain ⟨bs, h2⟩ := reps_reads I l r0 _ p.2 q v1
      exact ⟨as ++ bs, .cons h1 h2⟩
end
def RelD (H : Hp) (v : Value) (d : D) : Prop := ∃ x, RelV x v ∧ Rep H d x
theorem each_of : ∀ (l : List D) (xs : List V) (us : List Value), Reps H l xs → Vals xs us → EachIs (RelD H) us l
  | [], xs, us, h, r => by cases (show xs = [] from h); cases r; exact .nil
  | d :: l, xs, us, ⟨x, r0, e, h, q⟩, r => by
    subst e
    cases r with
    | cons z1 v1 => exact .cons ⟨x, z1, h⟩ (each_of l r0 _ q v1)
theorem of_each : ∀ {us : List Value} {l : List D}, EachIs (RelD H) us l → ∃ xs, Vals xs us ∧ Reps H l xs
  | _, _, .nil => ⟨[], .nil, rfl⟩
  | _, _, .cons ⟨x, z, h⟩ t => by
    obtain ⟨xs, v, r⟩ := of_each t
    exact ⟨x :: xs, .cons z v, x, xs, rfl, h, r⟩
def rSortD (K : PySem.W.Frag) : List V → Hp → VK → Prop := fun vs H Q => ∃ (a : Addr) (xs : List V) (l : List D) (G : Hp), vs = [V.ref a] ∧ SqL K H a xs ∧ Same G H ∧ Reps G l xs ∧ sortOk l = true ∧ ∀ ys p, Reps G (l.mergeSort leD') ys → H p = none → Q (.ref p) (upd H p (.lst ys))
theorem plains_mem {l : List D} (h : D.plains l = true) {d : D} (m : d ∈ l) : d.plain = true := by
  induction l with
  | nil => cases m
  | cons a r ih =>
    simp only [D.plains, Bool.and_eq_true] at h
    rcases List.mem_cons.mp m with e | m
    · rw [e]; exact h.1
    · exact ih h.2 m
theorem deps_mem {l : List D} {d : D} (m : d ∈ l) : d.dep ≤ D.deps l := by
  induction l with
  | nil => cases m
  | cons a r ih =>
    simp only [D.deps]
    rcases List.mem_cons.mp m with e | m
    · rw [e]; omega
    · have := ih m; omega
theorem cr_sortedK {Kf : PySem.W.Frag} (hK : X.K = Kf) (hu : X.A.units + 64 < cLine) : CallR X (.builtin "sorted") (rSortD Kf) := by
  subst hK
  intro pins s σ H vs us Q I r h
  obtain ⟨a, xs, l, G, rfl, hs, sm, hrG, hok, q⟩ := h
  have hr := Reps.mono sm _ _ hrG
  obtain ⟨its, rv, hl, hz⟩ := I.list hs
  rw [Vals.ref1 r]
  simp only [sortOk, Bool.and_eq_true, decide_eq_true_eq, Bool.or_eq_true] at hok
  obtain ⟨⟨⟨⟨p1, p2⟩, p3⟩, p4⟩, p5⟩ := hok
  have e := each_of l xs its hrG rv
  have er : EachIs (fun v b => ∃ as, Reads s.heap v (py b) as) its l := by
    obtain ⟨as, ra⟩ := reps_reads I l xs its p1 hr rv
    rw [pys_map] at ra
    exact readsAll_each py ra
  have hal : AllAlike (l.map py) := by
    intro d hd d' hd'
    obtain ⟨b, hb, rfl⟩ := List.mem_map.mp hd
    obtain ⟨b', hb', rfl⟩ := List.mem_map.mp hd'
    exact List.all_eq_true.mp (List.all_eq_true.mp p3 b hb) b' hb'
  have hk : Sortable (l.map py) := by
    rcases p4 with p4 | p4
    · refine .inl fun d hd => ?_
      obtain ⟨b, hb, rfl⟩ := List.mem_map.mp hd
      have := List.all_eq_true.mp p4 b hb
      cases b <;> try (cases this; done)
      rename_i l0
      cases l0 with
      | nil => cases this
      | cons x0 r0 => exact ⟨_, _, rfl⟩
    · refine .inr fun d hd => ?_
      obtain ⟨b, hb, rfl⟩ := List.mem_map.mp hd
      have h1 := List.all_eq_true.mp p4 b hb
      have h2 := plains_mem p1 hb
      cases b <;> first | (cases h1; done) | (cases h2; done) | exact ⟨(fun z => by cases z), fun _ z => by cases z⟩
  refine sorted_data hl.isList e er hal hk (by rw [sizeLine_eq]; omega) (fun b hb => ?_) fun out ho eo => ?_
  · have h1 := py_depth b (plains_mem p1 hb)
    have h2 := deps_mem hb
    omega
  · obtain ⟨ep, he'⟩ := PyProof.Rows.sortedAll_at s.heap its out.toArray
    obtain ⟨ys, v1, r1⟩ := of_each eo
    have hlen : ys.length ≤ sizeLine := by rw [v1.length, ho, sizeLine_eq]; omega
    exact ⟨.ref _, upd H (s.heap.objs.size + 1) (.lst ys), I.laid (t' := s.toks) (fun _ _ => PyProof.Rows.sortedAll_old) (Nat.le_succ _) ⟨hlen, out, ep, v1, he'⟩, rfl, q ys _ r1 (I.hok.fresh (Nat.le_succ _))⟩
end
theorem o_sorted {K : PySem.W.Frag} : Op1L (fun x H Q => rSortD K [x] H Q) sortD := fun G H x a c Q sm ra e => by
  cases a <;> try (cases e; done)
  rename_i l
  simp only [sortD] at e
  split at e
  · rename_i hok
    cases e
    obtain ⟨p, vs, e, g, z, r⟩ := ra
    subst e
    refine ⟨by rw [List.length_mergeSort]; exact z, fun q => ⟨p, vs, l, G, rfl, .inl g, sm, r, hok, fun ys p rs np => q p ys np rs⟩⟩
  · cases e
end VL

namespace VL
open PySem L2 PySem.SeqAt
/-! dict and text are never equal -/
section
variable {prog : Program} {w : World} {A : Around} {E : Value → Shared → Prop} {s : Shared}
theorem str_eq_declines_dict (b : Str) (u : Tok) (l : Addr) (c : Value) (es : Array DictEntry) (n : Nat) (dd : Option Addr) (sl : Array (Option Value)) :
    Meets (Builtin.«str.__eq__» ⟨[.str b u, .ref l], []⟩) (fun _ R s => s.heap.get? l = some { cls := c, dict := dd, data := .dict es n, slots := sl } ∧ R (.ok (.ret .notImplemented)) s) :=
  .of_wp fun prog w A R s h => by obtain ⟨hp, g, d, tk, os⟩ := s; obtain ⟨hl, h⟩ := h; wp_walk using wpAny_loadPart' hl, wpAny_load hl; exact ⟨_, rfl, h⟩
theorem dict_declines {T : String} {d : Addr} {x : Value} {Q' : Value → Shared → Prop} (dt : s.TypeIs (.ref d) "dict") (ty : s.TypeIs x T) (sub : isSubtype (.type T) (.type "dict") = pure false) (hq : Q' .notImplemented s) :
    wpAny (model prog w) A (call (.builtin "dict.__eq__") [.ref d, x]) Q' E s := by
  refine wpAny_call_entry PySem.F.slot_dict_eq dt PySem.F.entry_dict_eq ?_ (PySem.F.args_dict_eq_2 _ _)
  show wpAny _ _ (Builtin.Dict.dictSlotArgs "__eq__" ⟨[.ref d, x], []⟩ >>= _) _ _ s
  refine wpAny_bind ?_
  unfold Builtin.Dict.dictSlotArgs
  refine wpAny_bind (wpAny_notOrdered_dict dt ?_)
  show wpAny _ _ (pure (Value.ref d, x)) _ _ s
  refine wpAny_pure ?_
  refine wpAny_bind (wpAny_isInstance (T := T) ty sub ?_)
  simp only [Bool.not_false, if_true]
  refine wpAny_bind (wpAny_rule ?_)
  exact wpAny_pure ⟨_, rfl, hq⟩
end
section
variable {A : Around} {s : Shared}
theorem RcAt.str_dict {l : Addr} {o : Obj} {es : Array DictEntry} {n : Nat} (b : Str) (u : Tok) (ho : s.heap.get? l = some o) (hc : o.cls = .type "dict") (hd : o.data = .dict es n) (hu : A.units < cLine) : RcAt A s (.str b u) (.ref l) false := fun prog w E Q h => by
  obtain ⟨cls, dd, data, sl⟩ := o
  simp only at hc hd
  subst hc hd
  have ht : s.TypeIs (.ref l) "dict" := ⟨_, ho, rfl⟩
  exact rc_eq_decline_or (k := false) (typeIs_str s b u) ht (by decide) PySem.F.sub_dict_str PySem.F.slot_str_eq PySem.F.slot_dict_eq_refl
    (fun _ hq => call_meets PySem.F.slot_str_eq (typeIs_str s b u) PySem.F.entry_str_eq (PySem.F.args_str_eq_2 _ _) (str_eq_declines_dict b u l (.type "dict") es n dd sl) ⟨ho, hq⟩)
    (fun _ hq => dict_declines ht (typeIs_str s b u) PySem.F.sub_str_dict hq)
    (fun _ hq => wpAny_of_eq (rfl : isSame (.str b u) (.ref l) = pure false) hq) (.inr hu) h
theorem EqAt.str_dict {l : Addr} {o : Obj} {es : Array DictEntry} {n : Nat} (b : Str) (u : Tok) (ho : s.heap.get? l = some o) (hc : o.cls = .type "dict") (hd : o.data = .dict es n) (hu : A.units < cLine) : EqAt A s (.str b u) (.ref l) false := fun prog w E Q h => by
  unfold eqBool
  refine wpAny_holding ?_
  refine wpAny_ite_split (fun hab => absurd (eq_of_beq hab) nofun) (fun _ => ?_)
  exact wpAny_bind (RcAt.str_dict b u ho hc hd hu prog w E _ (wpAny_truthy_bool h))
end
def isDc : D → Bool | .dct false _ => true | _ => false
def isSt : D → Bool | .str _ => true | _ => false
/-- what `==` says of an item of the list and the thing looked for -/
def eqx (d a : D) : Bool := if isDc a = true then false else D.eqv d a
def inOk (a : D) (l : List D) : Bool := (a.plain && D.plains l && decide (D.deps l ≤ 60)) || (isDc a && l.all isSt)
def inE (a b : D) : Option Bool := match b with
  | .lst l => if inOk a l = true then some (l.any fun d => eqx d a) else none
  | .tup l => if inOk a l = true then some (l.any fun d => eqx d a) else none
  | _ => none
def notInE (a b : D) : Option Bool := (inE a b).map not
variable [EC]
section
variable {X : Cx} {pins : List (Addr × Obj)} {σ : List (Option V)} {H : Hp} {s : Shared}
theorem plains_get {l : List D} (h : D.plains l = true) : ∀ d ∈ l, d.plain = true := by
  induction l with
  | nil => intro d m; cases m
  | cons a r ih =>
    simp only [D.plains, Bool.and_eq_true] at h
    intro d m
    rcases List.mem_cons.mp m with e | m
    · rw [e]; exact h.1
    · exact ih h.2 d m
theorem deps_get {l : List D} : ∀ d ∈ l, d.dep ≤ D.deps l := by
  induction l with
  | nil => intro d m; cases m
  | cons a r ih =>
    simp only [D.deps]
    intro d m
    rcases List.mem_cons.mp m with e | m
    · rw [e]; omega
    · have := ih d m; omega
noncomputable def hitD (H : Hp) (l : List D) (a : D) (v : Value) : Bool := open Classical in if h : ∃ d, d ∈ l ∧ ∃ x, RelV x v ∧ Rep H d x then eqx h.choose a else false
theorem plain_of_ok {a : D} {l : List D} (h : inOk a l = true) : ∀ d ∈ l, d.plain = true := by
  simp only [inOk, Bool.or_eq_true, Bool.and_eq_true] at h
  rcases h with h | h
  · exact plains_get h.1.2
  · intro d m
    have := List.all_eq_true.mp h.2 d m
    cases d <;> first | (cases this; done) | rfl
theorem hit_eq {l : List D} {a d : D} {x : V} {v : Value} (hp : ∀ d ∈ l, d.plain = true) (hd : d ∈ l) (r : RelV x v) (q : Rep H d x) : hitD H l a v = eqx d a := by
  have h : ∃ d, d ∈ l ∧ ∃ x, RelV x v ∧ Rep H d x := ⟨d, hd, x, r, q⟩
  have e : hitD H l a v = eqx h.choose a := by
    show (open Classical in if h : ∃ d, d ∈ l ∧ ∃ x, RelV x v ∧ Rep H d x then eqx h.choose a else false) = _
    rw [dif_pos h]
  obtain ⟨m, y, ry, qy⟩ := h.choose_spec
  rw [e]
  have ey := ry.inj r
  rw [ey] at qy
  rw [rep_inj h.choose d x (hp _ m) (hp _ hd) qy q]
theorem hit_at (I : Inv X pins σ H s) {l : List D} {a : D} {y : V} {w : Value} (A : Around) (hok : inOk a l = true) (hu : A.units + 64 < cLine) (ra : Rep H a y) (rw_ : RelV y w) {d : D} {x : V} {v : Value} (hd : d ∈ l) (r : RelV x v) (q : Rep H d x) : EqAt A.in1 s v w (hitD H l a v) := by
  rw [hit_eq (plain_of_ok hok) hd r q]
  simp only [inOk, Bool.or_eq_true, Bool.and_eq_true, decide_eq_true_eq] at hok
  rcases hok with ⟨⟨p1, p2⟩, p3⟩ | ⟨p1, p2⟩
  · have e : eqx d a = D.eqv d a := by unfold eqx; rw [if_neg]; intro z; cases a <;> first | cases z | cases p1
    rw [e]
    have := deps_get d hd
    exact eqAt_d I d a A.in1 x y v w (plains_get p2 d hd) p1 q ra r rw_ (by rw [in1_units]; omega)
  · have hs := List.all_eq_true.mp p2 d hd
    cases d <;> try (cases hs; done)
    rename_i t
    cases (show x = .str (mkS t) from q)
    obtain ⟨u, rfl⟩ := r
    have e : eqx (.str t) a = false := by unfold eqx; rw [if_pos p1]
    rw [e]
    cases a <;> try (cases p1; done)
    rename_i k kv
    cases k with
    | true => cases p1
    | false =>
      obtain ⟨p, kvs, ey, g, rk⟩ := ra
      subst ey
      cases rw_
      obtain ⟨_, _, vs, _, o, es, ep, ho, hx, hd2, _⟩ := (show ObjOk X.prog X.w H s.heap p (.dK kvs) from rd_of I.hok g)
      exact EqAt.str_dict _ _ ho hx.1 hd2 (by rw [in1_units]; omega)
theorem any_hit {l : List D} {a : D} (hp : ∀ d ∈ l, d.plain = true) : ∀ (m : List D) (xs : List V) (us : List Value), (∀ d ∈ m, d ∈ l) → Reps H m xs → Vals xs us → us.any (hitD H l a) = m.any fun d => eqx d a
  | [], xs, us, _, h, r => by cases (show xs = [] from h); cases r; rfl
  | d :: m, xs, us, hm, ⟨x, r0, e, h, q⟩, r => by
    subst e
    cases r with
    | cons z1 v1 =>
      rw [List.any_cons, List.any_cons, hit_eq hp (hm d List.mem_cons_self) z1 h, any_hit hp m r0 _ (fun d' h' => hm d' (List.mem_cons_of_mem _ h')) q v1]
def rInE (K : PySem.W.Frag) (neg : Bool) : R2 := fun x y H Q => ∃ (p : Addr) (xs : List V) (l : List D) (a : D), y = .ref p ∧ (SqL K H p xs ∨ SqT K H p xs) ∧ Rep H a x ∧ Reps H l xs ∧ inOk a l = true ∧ Q (.bl (if neg then !(l.any fun d => eqx d a) else l.any fun d => eqx d a)) H
theorem mem_reps {m : List D} {xs : List V} {us : List Value} (h : Reps H m xs) (r : Vals xs us) {v : Value} (hv : v ∈ us) : ∃ d ∈ m, ∃ x, RelV x v ∧ Rep H d x := by
  induction m generalizing xs us with
  | nil => cases (show xs = [] from h); cases r; cases hv
  | cons d m ih =>
    obtain ⟨x, r0, e, h, q⟩ := h
    subst e
    cases r with
    | cons z1 v1 =>
      rcases List.mem_cons.mp hv with e | hv
      · subst e; exact ⟨d, List.mem_cons_self, x, z1, h⟩
      · obtain ⟨d', m', x', a, b⟩ := ih q v1 hv
        exact ⟨d', List.mem_cons_of_mem _ m', x', a, b⟩
theorem op_inEK {Kf : PySem.W.Frag} (hK : X.K = Kf) (hu : X.A.units + 64 < cLine) : OpR X (compareOp .In) (rInE Kf false) := by
  subst hK
  intro pins s σ H x y v u Q I rx ry h
  obtain ⟨p, xs, l, a, rfl, hq, ha, hl, hok, q⟩ := h
  cases ry
  rcases hq with hq | hq
  · obtain ⟨its, r, pl, hz⟩ := I.list hq
    refine in_listAt (hitD H l a) pl.isList (fun w hw => ?_) ⟨.bl _, H, I, rfl, ?_⟩
    · obtain ⟨d, hd, x', r1, q1⟩ := mem_reps hl r (show w ∈ its by simpa using hw)
      exact hit_at I X.A hok hu ha rx hd r1 q1
    · rw [show its.toArray.any (hitD H l a) = its.any (hitD H l a) by simp, any_hit (plain_of_ok hok) l xs its (fun _ h => h) hl r]
      exact q
  · obtain ⟨its, r, pl, hz⟩ := I.tuple hq
    refine in_tupleAt (hitD H l a) pl (fun w hw => ?_) ⟨.bl _, H, I, rfl, ?_⟩
    · obtain ⟨d, hd, x', r1, q1⟩ := mem_reps hl r (show w ∈ its by simpa using hw)
      exact hit_at I X.A hok hu ha rx hd r1 q1
    · rw [show its.toArray.any (hitD H l a) = its.any (hitD H l a) by simp, any_hit (plain_of_ok hok) l xs its (fun _ h => h) hl r]
      exact q
theorem op_notInEK {Kf : PySem.W.Frag} (hK : X.K = Kf) (hu : X.A.units + 64 < cLine) : OpR X (compareOp .NotIn) (rInE Kf true) := by
  subst hK
  intro pins s σ H x y v u Q I rx ry h
  obtain ⟨p, xs, l, a, rfl, hq, ha, hl, hok, q⟩ := h
  cases ry
  rcases hq with hq | hq
  · obtain ⟨its, r, pl, hz⟩ := I.list hq
    refine notIn_listAt (hitD H l a) pl.isList (fun w hw => ?_) ⟨.bl _, H, I, rfl, ?_⟩
    · obtain ⟨d, hd, x', r1, q1⟩ := mem_reps hl r (show w ∈ its by simpa using hw)
      exact hit_at I X.A hok hu ha rx hd r1 q1
    · rw [show its.toArray.any (hitD H l a) = its.any (hitD H l a) by simp, any_hit (plain_of_ok hok) l xs its (fun _ h => h) hl r]
      exact q
  · obtain ⟨its, r, pl, hz⟩ := I.tuple hq
    refine notIn_tupleAt (hitD H l a) pl (fun w hw => ?_) ⟨.bl _, H, I, rfl, ?_⟩
    · obtain ⟨d, hd, x', r1, q1⟩ := mem_reps hl r (show w ∈ its by simpa using hw)
      exact hit_at I X.A hok hu ha rx hd r1 q1
    · rw [show its.toArray.any (hitD H l a) = its.any (hitD H l a) by simp, any_hit (plain_of_ok hok) l xs its (fun _ h => h) hl r]
      exact q
end
theorem inE_cases {K : PySem.W.Frag} {H : Hp} {x y : V} {a b : D} {c : Bool} (ra : Rep H a x) (rb : Rep H b y) (e : inE a b = some c) :
    ∃ (p : Addr) (xs : List V) (l : List D), y = .ref p ∧ (SqL K H p xs ∨ SqT K H p xs) ∧ Reps H l xs ∧ inOk a l = true ∧ (l.any fun d => eqx d a) = c := by
  cases b <;> try (cases e; done)
  all_goals
    rename_i l
    simp only [inE] at e
    split at e
    · cases e
      rename_i h
      obtain ⟨p, xs, e, g, z, r⟩ := rb
      first | exact ⟨p, xs, l, e, .inr (.inl (.inl g)), r, h, rfl⟩ | exact ⟨p, xs, l, e, .inl (.inl g), r, h, rfl⟩
    · cases e
theorem o_inE {K : PySem.W.Frag} : Op2B (rInE K false) inE := fun H x y a b c Q ra rb e q => by
  obtain ⟨p, xs, l, e1, e2, e3, e4, e5⟩ := inE_cases (K := K) ra rb e
  exact ⟨p, xs, l, a, e1, e2, ra, e3, e4, by simp only [Bool.false_eq_true, if_false]; rw [e5]; exact q⟩
theorem o_notInE {K : PySem.W.Frag} : Op2B (rInE K true) notInE := fun H x y a b c Q ra rb e q => by
  unfold notInE at e
  cases e2 : inE a b with
  | none => rw [e2] at e; cases e
  | some c' =>
    rw [e2] at e
    cases e
    obtain ⟨p, xs, l, e1, e2, e3, e4, e5⟩ := inE_cases (K := K) ra rb e2
    exact ⟨p, xs, l, a, e1, e2, ra, e3, e4, by simp only [if_true]; rw [e5]; exact q⟩
end VL

namespace VL
open PySem L2 PySem.Spec PyProof.Rows PySem.W
/-! zip(list, text) in a loop -/
def ItzS (K : PySem.W.Frag) (a : Addr) (y : Str) : It :=
  ⟨fun i H => ∃ (xs : List V) (x : V) (c : Nat), SqL K H a xs ∧ xs[i]? = some x ∧ y.cps[i]? = some c,
    fun i H v H' => ∃ (T : Addr) (x : V) (c : Nat), v = .ref T ∧ H T = none ∧ H' = upd H T (.tup [x, .str ⟨#[c]⟩]) ∧ (∀ xs, SqL K H a xs → xs[i]? = some x) ∧ y.cps[i]? = some c,
    fun i H => ∃ xs : List V, SqL K H a xs ∧ xs.length ≤ i⟩
theorem turn_zipS {P : Program} {w : World} {K : PySem.W.Frag} {elts : List Expr} {kk : Nat} {tpos : Pos} {a z TI TO i1 i2 : Addr} {y : Str} {t : Tok} (D : ZipApart z TI TO i1 i2 a a) :
    Turn P w K (.Tuple elts kk tpos) (ItzS K a y) [z, TI, TO, i1, i2] z (fun i h => IsZip h z TI TO .none ∧ IsPair h TI (.ref i1) (.ref i2) ∧ (∃ x y, IsPair h TO x y) ∧ h.IsListIter i1 a i ∧ h.IsStrIter i2 ZS.Asc y t i) where
  mem := by simp
  obj := fun i h st c hc => by
    obtain ⟨hz, hTI, ⟨x, y, hTO⟩, ⟨o1, e1, _, d1⟩, ⟨o2, e2, _, d2⟩⟩ := st
    have e' : c = z ∨ c = TI ∨ c = TO ∨ c = i1 ∨ c = i2 := by simpa using hc
    rcases e' with q | q | q | q | q
    · rw [q]; exact ⟨_, hz, fun v q => nomatch q⟩
    · rw [q]; exact ⟨_, hTI, fun v q => nomatch q⟩
    · rw [q]; exact ⟨_, hTO, fun v q => nomatch q⟩
    · rw [q]; exact ⟨o1, e1, fun v q => by rw [d1] at q; cases q⟩
    · rw [q]; exact ⟨o2, e2, fun v q => by rw [d2] at q; cases q⟩
  keep := fun i h h' st k => by
    obtain ⟨hz, hTI, ⟨x, y, hTO⟩, h1, h2⟩ := st
    exact ⟨k z (by simp) _ hz, k TI (by simp) _ hTI, ⟨x, y, k TO (by simp) _ hTO⟩, h1.at fun o q => k i1 (by simp) o q, ZS.siAt h2 fun o q => k i2 (by simp) o q⟩
  item := by
    intro X hP hw hK hc i pins s σ H E I hf st hg
    subst hP hw hK
    obtain ⟨hz, hTI, ⟨x0, y0, hTO⟩, h1, h2⟩ := st
    obtain ⟨xs, x, c0, hqx, hx, hy⟩ := hg
    obtain ⟨its, rv, p, _⟩ := I.list hqx
    obtain ⟨u, hu, ru⟩ := rv.get hx
    have hzl : z < s.heap.objs.size := Heap.lt_size hz
    refine ZS.nextF D hz hTI hTO h1 h2 p.isList (x := u) (by simpa using hu) hy fun h' z' TO' h1' h2' hT hsz hk => ?_
    refine ⟨_, rfl, wpAny_letOwnedTupleGo_zip (s := { s with heap := h', toks := s.toks + 1 }) z' fun h'' z'' sb => ?_⟩
    have hT2 : h''.get? s.heap.objs.size = some { cls := .type "tuple", data := .seq #[u, .str ⟨#[c0]⟩ s.toks] } := (sb.2 _ (Nat.ne_of_gt hzl)).trans hT
    have new : ObjOk X.prog X.w (upd H s.heap.objs.size (.tup [x, .str ⟨#[c0]⟩])) h'' s.heap.objs.size (.tup [x, .str ⟨#[c0]⟩]) :=
      ⟨by show 2 ≤ sizeLine; decide, [u, .str ⟨#[c0]⟩ s.toks], .cons ru (.cons ⟨_, rfl⟩ .nil), ⟨_, hT2, rfl, _, rfl⟩⟩
    have I1 : Inv X pins σ (upd H s.heap.objs.size (.tup [x, .str ⟨#[c0]⟩])) { s with heap := h'', toks := s.toks + 1 } :=
      I.turnedNew (t' := s.toks + 1) (ch := [z, TI, TO, i1, i2]) (fun c o hb q => (sb.2 c (fun q' => hb (by simp [q']))).trans (hk c o (fun q' => hb (by simp [q'])) (fun q' => hb (by simp [q'])) (fun q' => hb (by simp [q'])) (fun q' => hb (by simp [q'])) q)) hf (Nat.le_refl _) new
    refine ⟨.ref s.heap.objs.size, _, I1, rfl, ⟨_, x, c0, rfl, I.hok.fresh (Nat.le_refl _), rfl, fun l hl => by rw [I.list_inj hl hqx]; exact hx, hy⟩, ⟨z'', ?_, ⟨u, .str ⟨#[c0]⟩ s.toks, ?_⟩, ?_, ?_⟩, fun c hcm => ?_⟩
    · exact (sb.2 _ D.TIz).trans (hk _ _ D.TIz D.TITO D.TIi1 D.TIi2 hTI)
    · exact (sb.2 _ D.TOz).trans TO'
    · exact h1'.at fun o q => (sb.2 _ D.i1z).trans q
    · exact ZS.siAt h2' fun o q => (sb.2 _ D.i2z).trans q
    · have hlt : c < s.heap.objs.size := by
        have e' : c = z ∨ c = TI ∨ c = TO ∨ c = i1 ∨ c = i2 := by simpa using hcm
        rcases e' with q | q | q | q | q
        · rw [q]; exact hzl
        · rw [q]; exact Heap.lt_size hTI
        · rw [q]; exact Heap.lt_size hTO
        · rw [q]; obtain ⟨_, e1, _⟩ := h1; exact Heap.lt_size e1
        · rw [q]; obtain ⟨_, e2, _⟩ := h2; exact Heap.lt_size e2
      rw [upd_ne (Nat.ne_of_lt hlt)]
      exact (hf c hcm).1
  done := by
    intro X hP hw hK hc i pins s σ H E I hf st hg
    subst hP hw hK
    obtain ⟨hz, hTI, ⟨x0, y0, hTO⟩, h1, h2⟩ := st
    obtain ⟨xs, hqx, hend⟩ := hg
    obtain ⟨its, rv, p, _⟩ := I.list hqx
    have l1 := rv.length
    exact ZS.stopF (I.ok.hd hc) D hz hTI h1 p.isList (by simp; omega) fun h' hk => ⟨rfl, I.turnedL (t' := s.toks) (ch := [z, TI, TO, i1, i2]) (fun c o hb q =>
      hk c o (fun q' => hb (by simp [q'])) (fun q' => hb (by simp [q'])) (fun q' => hb (by simp [q'])) (fun q' => hb (by simp [q'])) q) hf⟩
  self := fun A i s Q E st h => wpAny_pyIter_zip st.1 h
def iZipS (K : PySem.W.Frag) (ta : TA) : TI := fun σ H R => ta σ H fun vs H1 => ∃ (a : Addr) (y : Str) (xs : List V), vs = [.ref a, .str y] ∧ SqL K H1 a xs ∧ y.cps.all (· < 128) = true ∧ R (ItzS K a y) H1
theorem pi_zipS {X : Cx} {Kf : PySem.W.Frag} {e e2 : Expr} {ta : TA} {p pos tpos : Pos} {elts : List Expr} {kk : Nat} (hK : X.K = Kf) (hg : Gl X "zip") (hm : X.mg "zip" = none) (ha : PA X [e, e2] ta)
    (hs : starEach [e, e2] X.env = (false, eval e X.env) :: starEach [e2] X.env := by rfl) (hpl : (backTo pos (starEach [e2] X.env)).any (·.1) = false := by rfl) :
    PI X (.Tuple elts kk tpos) (.Call (.Name "zip" p) [e, e2] [] pos) (iZipS Kf ta) := by
  subst hK
  refine ⟨fun pins s σ H R I h => ?_⟩
  refine Call_ (ld_blt I hg hm PyProof.Rows.boot_zip (PyProof.Rows.callWith_type1 (thn (ha.run pos pins s σ H _ I h) fun us s1 ⟨vs, H1, I1, r1, q1⟩ => ?_) hs hpl))
  obtain ⟨a, y, xs, ex, hqx, asc, q⟩ := q1
  subst ex
  cases r1 with
  | cons r rr =>
    cases rr with
    | cons r' rr =>
      cases rr
      cases r
      obtain ⟨t, rfl⟩ := r'
      obtain ⟨its, rv, p1, _⟩ := I1.list hqx
      have la : a < s1.heap.objs.size := p1.lt
      refine ZS.call p1.isList fun h' hz hTI hTO h1 h2 hsz hk => wpAny_pyIter_zip hz ?_
      have e : strIterType y = ZS.Asc := by unfold strIterType; rw [if_pos asc]
      rw [e] at h2
      have I2 : Inv X pins σ H1 { s1 with heap := h' } := I1.kept (t' := s1.toks) hk
      refine ⟨s1.heap.objs.size + 4, [s1.heap.objs.size + 4, s1.heap.objs.size + 2, s1.heap.objs.size + 3, s1.heap.objs.size, s1.heap.objs.size + 1], _, _, H1, rfl, I2, turn_zipS (y := y) (t := t) (PySem.W.ktu_apart s1.heap.objs.size a a la la), ⟨hz, hTI, ⟨_, _, hTO⟩, h1, h2⟩, fun c hcm => ?_, q⟩
      have e' : c = s1.heap.objs.size + 4 ∨ c = s1.heap.objs.size + 2 ∨ c = s1.heap.objs.size + 3 ∨ c = s1.heap.objs.size ∨ c = s1.heap.objs.size + 1 := by simpa using hcm
      have hle : s1.heap.objs.size ≤ c := by
        rcases e' with z | z | z | z | z
        · rw [z]; exact Nat.le_add_right _ _
        · rw [z]; exact Nat.le_add_right _ _
        · rw [z]; exact Nat.le_add_right _ _
        · rw [z]; exact Nat.le_refl _
        · rw [z]; exact Nat.le_add_right _ _
      exact I1.fpOk hle (I1.hok.fresh hle)
/-! tuples: the value of a frozen tuple; slices, sums, walks -/
def slT (lo hi : Option Int) : D → Option D | .tup l => some (.tup (cut l lo hi)) | _ => none
def catT : D → D → Option D | .tup a, .tup b => if a.length + b.length ≤ 1000 then some (.tup (a ++ b)) else none | _, _ => none
def asTup : D → Option (List D) | .tup l => some l | _ => none
def asZip (a b : D) : Option (List D) := match a, b with
  | .lst l, .str y => if y.all (· < 128) = true ∧ l.length ≤ y.length then some (zipD l (strL y)) else none
  | _, _ => none
variable [EC]
section
variable {F : Fc} {G H : Hp} {ω : Addr → Option Lab} {tmp : Tmp} {s : State} {σ : L2.St} {v : V} {t : T}
theorem Hd.repTup (h : Hd F G ω tmp s σ H) {p : Lab} {tm : TM} {l : List D} (ok : TmOk G H ω σ p tm v) (e : valS s tm = some (.tup l)) : Rep G (.tup l) v := by
  unfold valS at e
  cases e2 : treeAt s tm with
  | none => rw [e2] at e; cases e
  | some t =>
    rw [e2] at e
    obtain ⟨q, o⟩ := h.tree ok e2
    cases t with
    | f d' => cases e; exact o
    | l ds => cases e
    | dc k l => cases e
    | ll ts => cases e
    | tt ts => cases e
    | dl ks ts => cases e
    | hole w => cases e
end
section
variable {R : Type} {F : Fc} {tmp : Tmp} {s : State} {m : Res R} {K : Rs R} {ta tb te to : TE} {Kf : PySem.W.Frag}
theorem rd_slT {tl th : TO} (h : RD F tmp s ta m (fun tm s1 m1 => ∀ x, RO F ((x, tm) :: tmp) s1 m1 tl (fun lo s2 m2 => RO F ((x, tm) :: tmp) s2 m2 th (fun hi s3 m3 => ∃ d k, valS s3 tm = some d ∧ m3 = ob (slT lo hi d) k ∧ ∀ c, K (.own (.f c)) s3 (k c))))) :
    RD F tmp s (tSl (rSlA Kf) ta tl th) m K := fun σ H Q hh nf eo q =>
  h σ H _ hh nf eo fun tm s1 x H1 h2 h1 => h2 x σ H1 _ h1 nf eo fun lo s2 H2 h3 hh2 => h3 σ H2 _ hh2 nf eo fun hi s3 H3 ⟨d, k, ea, em, hk⟩ hh3 => by
    obtain ⟨c, ec, em'⟩ := ob_cases (by rw [← em]; exact nf)
    obtain ⟨G, ω, h4⟩ := hh3
    cases d <;> try (cases ec; done)
    rename_i l
    cases ec
    obtain ⟨p, vs, e1, g, z, r⟩ := h4.repTup h4.tm.1 ea
    refine ⟨p, vs, e1, .inl (.inl (h4.gH _ _ g)), fun hw => ?_, fun hw p2 np => q _ s3 _ _ (by rw [em, em']; exact hk _) (h4.pop.newT np ?_ ?_)⟩
    · refine q _ s3 _ _ (by rw [em, em']; exact hk _) ⟨G, ω, h4.pop.pushF (d := .tup _) ⟨p, vs, rfl, g, ?_, ?_⟩⟩
      · exact Nat.le_trans (cut_len _ lo hi) z
      · unfold cut
        rw [r.length, hw.1, hw.2, List.drop_zero, Nat.sub_zero, ← r.length, List.take_length]
        exact r
    · exact Nat.le_trans (cut_len _ lo hi) z
    · unfold cut cutV
      rw [← r.length]
      exact (r.drop _).take _
theorem rd_catT (h : RD F tmp s ta m (fun tm1 s1 m1 => ∀ x, RD F ((x, tm1) :: tmp) s1 tb m1 (fun tm2 s2 m2 => ∃ a b k, valS s2 tm1 = some a ∧ valS s2 tm2 = some b ∧ m2 = ob (catT a b) k ∧ ∀ c, K (.own (.f c)) s2 (k c)))) : RD F tmp s (tOp (rCatA Kf) ta tb) m K := fun σ H Q hh nf eo q =>
  h σ H _ hh nf eo fun tm1 s1 x H1 h2 h1 => h2 x σ H1 _ h1 nf eo fun tm2 s2 y H2 ⟨a, b, k, ea, eb, em, hk⟩ h3 => by
    obtain ⟨c, ec, em'⟩ := ob_cases (by rw [← em]; exact nf)
    obtain ⟨G, ω, h3⟩ := h3
    cases a <;> try (cases ec; done)
    cases b <;> try (cases ec; done)
    rename_i l l'
    simp only [catT] at ec
    split at ec
    · rename_i hz
      cases ec
      obtain ⟨p, vs, e1, g, z, r⟩ := h3.repTup h3.tm.2.1 ea
      obtain ⟨p', vs', e1', g', z', r'⟩ := h3.repTup h3.tm.1 eb
      refine ⟨p, p', vs, vs', e1, e1', .inl (.inl (h3.gH _ _ g)), .inl (.inl (h3.gH _ _ g')), by rw [← r.length, ← r'.length, sizeLine_eq]; omega, fun h0 => ?_, fun _ h0 => ?_, fun _ _ p2 np => ?_⟩
      · subst h0
        have e0 : l = [] := by cases l with | nil => rfl | cons _ _ => have := r.length; simp at this
        subst e0
        exact q _ s2 _ _ (by rw [em, em']; exact hk _) ⟨G, ω, h3.pop.pop.pushF (d := .tup _) ⟨p', vs', rfl, g', z', r'⟩⟩
      · subst h0
        have e0 : l' = [] := by cases l' with | nil => rfl | cons _ _ => have := r'.length; simp at this
        subst e0
        refine q _ s2 _ _ (by rw [em, em']; exact hk _) ⟨G, ω, h3.pop.pop.pushF (d := .tup _) (by rw [List.append_nil]; exact ⟨p, vs, rfl, g, z, r⟩)⟩
      · exact q _ s2 _ _ (by rw [em, em']; exact hk _) (h3.pop.pop.newT np (by rw [List.length_append, sizeLine_eq]; omega) (r.append r'))
    · cases ec
theorem ri_tup {K : Ki R} (h : RD F tmp s ta m (fun tm s1 m1 => ∃ d k, valS s1 tm = some d ∧ m1 = ob (asTup d) k ∧ ∀ ds v, K [(v, tm)] (fun s => valS s tm = valS s1 tm) id ds s1 (k ds))) : RI F tmp s m (iTup Kf ta) K := fun σ H Q hh nf eo q =>
  h σ H _ hh nf eo fun tm s1 x H1 ⟨d, k, ea0, em, hk0⟩ h1 => by
    obtain ⟨ds, ed, em'⟩ := ob_cases (by rw [← em]; exact nf)
    have ea : valS s1 tm = some (.tup ds) := by rw [ea0]; cases d <;> first | (cases ed; rfl) | cases ed
    have hk := hk0 ds
    rw [← em', ← em] at hk
    have at_ : ∀ (pre : Tmp) s σ H, valS s tm = some (.tup ds) → Holds F (pre ++ ([(x, tm)] ++ tmp)) s σ H → ∃ a vs G ω, x = .ref a ∧ H a = some (.tup vs) ∧ Hd F G ω (pre ++ ([(x, tm)] ++ tmp)) s σ H ∧ Reps G ds vs ∧ ds.length ≤ sizeLine := fun pre s σ H e ⟨G, ω, h⟩ => by
      obtain ⟨a, vs, e1, g, z, r⟩ := h.repTup (Tms.at (tm := tm) (tmp := tmp) pre h.tm) e
      exact ⟨a, vs, G, ω, e1, h.gH _ _ g, h, r, z⟩
    have hp' : ∀ {s : State}, valS s tm = valS s1 tm → valS s tm = some (.tup ds) := fun h => h.trans ea
    obtain ⟨a, vs, G, ω, e1, g, h2, r, z⟩ := at_ [] s1 σ H1 ea h1
    refine ⟨a, e1, ⟨vs, .inl (.inl g)⟩, q [(x, tm)] _ id ds s1 (Itt Kf a) H1 (hk x) ⟨fun pre s σ H _ h => h.dropMid pre, z, fun s σ H i hp hh hi => ?_, fun s σ H hp hh => ?_, fun pre s σ H i d y H' hp hh hd hy => ?_⟩ h1⟩
    · obtain ⟨a', vs', G', ω', e2, g2, _, r2, _⟩ := at_ [] s σ H (hp' hp) hh
      rw [e1] at e2; cases e2
      have hl : i < vs'.length := by rw [← r2.length]; exact hi
      exact ⟨vs', vs'[i], .inl (.inl g2), by simp [hl]⟩
    · obtain ⟨a', vs', G', ω', e2, g2, _, r2, _⟩ := at_ [] s σ H (hp' hp) hh
      rw [e1] at e2; cases e2
      exact ⟨vs', .inl (.inl g2), by rw [r2.length]; exact Nat.le_refl _⟩
    · obtain ⟨a', vs', G', ω', e2, g2, h3, r2, _⟩ := at_ pre s σ H (hp' hp) hh
      rw [e1] at e2; cases e2
      obtain ⟨rfl, hy⟩ := hy
      have hy := hy vs' (.inl (.inl g2))
      obtain ⟨w, w1, w2⟩ := r2.get hd
      rw [hy] at w1; cases w1
      exact ⟨G', ω', h3.pushF w2⟩
theorem ri_zipS {K : Ki R} (h : RD F tmp s ta m (fun tm1 s1 m1 => ∀ x, RD F ((x, tm1) :: tmp) s1 tb m1 (fun tm2 s2 m2 => ∃ (a b : D) (k : List D → Res R), valS s2 tm1 = some a ∧ valS s2 tm2 = some b ∧ m2 = ob (asZip a b) k ∧ ∀ ds y, K [(y, tm2), (x, tm1)] (fun s => valS s tm1 = valS s2 tm1) id ds s2 (k ds)))) :
    RI F tmp s m (iZipS Kf (tCons ta (tCons tb tNil))) K := fun σ H Q hh nf eo q =>
  h σ H _ hh nf eo fun tm1 s1 x H1 hx h1 => hx x σ H1 _ h1 nf eo fun tm2 s2 y H2 ⟨a0, b0, k, ea0, eb0, em, hk0⟩ h2 => by
    obtain ⟨ds, ed, em'⟩ := ob_cases (by rw [← em]; exact nf)
    cases a0 <;> try (cases ed; done)
    cases b0 <;> try (cases ed; done)
    rename_i da yy
    simp only [asZip] at ed
    split at ed
    case isFalse => cases ed
    rename_i hy0
    cases ed
    have hk := hk0 (zipD da (strL yy))
    rw [← em', ← em] at hk
    have ey : y = .str (mkS yy) := by
      obtain ⟨G, ω, h3⟩ := h2
      exact h3.repC h3.tm.1 eb0
    have at_ : ∀ (pre : Tmp) s σ H, valS s tm1 = some (.lst da) → Holds F (pre ++ ([(y, tm2), (x, tm1)] ++ tmp)) s σ H → ∃ a vs G ω, x = .ref a ∧ Rd H a (.lst vs) ∧ Hd F G ω (pre ++ ([(y, tm2), (x, tm1)] ++ tmp)) s σ H ∧ Reps G da vs ∧ da.length ≤ sizeLine := fun pre s σ H e ⟨G, ω, h⟩ => by
      have q2 := Tms.at (tm := tm1) (tmp := tmp) (pre ++ [(y, tm2)]) (by rw [List.append_assoc]; exact h.tm)
      obtain ⟨a, vs, e1, g1, z1, r1⟩ := h.repC q2 e
      exact ⟨a, vs, G, ω, e1, g1, h, r1, z1⟩
    have hp' : ∀ {s : State}, valS s tm1 = valS s2 tm1 → valS s tm1 = some (.lst da) := fun h => h.trans ea0
    obtain ⟨a, vs, G, ω, e1, g1, h3, r1, z⟩ := at_ [] s2 σ H2 ea0 h2
    have lz : (zipD da (strL yy)).length = da.length := by rw [zipD_len]; simp [strL]; omega
    have asc : (mkS yy).cps.all (· < 128) = true := by
      have := hy0.1
      simpa [mkS] using this
    refine ⟨a, mkS yy, vs, by rw [e1, ey], .inl g1, asc, q [(y, tm2), (x, tm1)] _ id _ s2 (ItzS Kf a (mkS yy)) H2 (hk y) ⟨fun pre s σ H _ h => h.dropMid pre, by rw [lz]; exact z, fun s σ H i hp hh hi => ?_, fun s σ H hp hh => ?_, fun pre s σ H i d v H' hp hh hd hy => ?_⟩ h2⟩
    · obtain ⟨a', vs', G', ω', e3, g3, _, r3, _⟩ := at_ [] s σ H (hp' hp) hh
      rw [e1] at e3; cases e3
      rw [lz] at hi
      have hl : i < vs'.length := by rw [← r3.length]; exact hi
      exact ⟨vs', vs'[i], yy[i]'(by omega), .inl g3, by simp [hl], by rw [← Array.getElem?_toList, mkS_cps]; exact List.getElem?_eq_getElem (by omega)⟩
    · obtain ⟨a', vs', G', ω', e3, g3, _, r3, _⟩ := at_ [] s σ H (hp' hp) hh
      rw [e1] at e3; cases e3
      exact ⟨vs', .inl g3, by rw [lz, r3.length]; exact Nat.le_refl _⟩
    · obtain ⟨a', vs', G', ω', e3, g3, h5, r3, _⟩ := at_ pre s σ H (hp' hp) hh
      rw [e1] at e3; cases e3
      obtain ⟨da', db', d1, d2, d3⟩ := zipD_get da (strL yy) i d hd
      obtain ⟨w, w1, w2⟩ := r3.get d1
      obtain ⟨T, x1, c, rfl, np, rfl, y1, y2⟩ := hy
      have y1 := y1 vs' (.inl g3)
      rw [w1] at y1; cases y1
      rw [← Array.getElem?_toList, mkS_cps] at y2
      simp only [strL, List.getElem?_map, y2] at d2
      cases d2
      rw [d3]
      exact h5.pushNewT np w2 rfl
end
end VL

namespace L2
open PySem PySem.Spec PyProof.Rows
def zipKVL (ks : List Str) (ys : List V) : List (Key × V) := (ks.zip ys).map fun p => (Sum.inr p.1, p.2)
def tDictZipL (K : PySem.W.Frag) (ta tb : TE) : TE := fun σ H Q => ta σ H fun x H1 => tb σ H1 fun u H2 => ∃ (l l2 : Addr) (ks : List Str) (ys : List V), x = .ref l ∧ u = .ref l2 ∧ SqL K H2 l (ks.map V.str) ∧ SqL K H2 l2 ys ∧ ∀ p, H2 p = none → Q (.ref p) (upd H2 p (.dK (mergeK [] (zipKVL ks ys))))
section
variable {X : Cx} {pins : List (Addr × Obj)} {σ : L2.St}
def ZippedL (X : Cx) (pins : List (Addr × Obj)) (σ : L2.St) (l l2 : Addr) (its its2 : List Value) (H2 : Hp) (v : Value) (s1 : Shared) : Prop :=
  ∃ (s2 : Shared) (h1 : Heap), v = .ref (s2.heap.objs.size + 4) ∧ s1 = { s2 with heap := h1 } ∧ Inv X pins σ H2 s2 ∧ l < s2.heap.objs.size ∧ l2 < s2.heap.objs.size ∧ IsZip h1 (s2.heap.objs.size + 4) (s2.heap.objs.size + 2) (s2.heap.objs.size + 3) .none ∧ IsPair h1 (s2.heap.objs.size + 2) (.ref s2.heap.objs.size) (.ref (s2.heap.objs.size + 1)) ∧ IsPair h1 (s2.heap.objs.size + 3) .none .none ∧
    h1.IsListIter s2.heap.objs.size l 0 ∧ h1.IsListIter (s2.heap.objs.size + 1) l2 0 ∧ h1.IsList l its.toArray ∧ h1.IsList l2 its2.toArray ∧ h1.objs.size = s2.heap.objs.size + 5 ∧ (∀ c o, s2.heap.get? c = some o → h1.get? c = some o)
theorem zip_keysL {ks : List Str} {ys : List V} {its its2 : List Value} (r : Vals (ks.map V.str) its) (r2 : Vals ys its2) {P : Program} {w : World} {i : Nat} {key v : Value} (h : its.toArray[i]? = some key ∧ its2.toArray[i]? = some v) :
    ∃ k z, (zipKVL ks ys)[i]? = some (k, z) ∧ (mixKind P w).is k key = true ∧ RelV z v := by
  obtain ⟨hk, hv⟩ := h
  rw [List.getElem?_toArray] at hk hv
  have hi : i < its.length := (List.getElem?_eq_some_iff.mp hk).1
  have hj : i < its2.length := (List.getElem?_eq_some_iff.mp hv).1
  have hi2 : i < ks.length := by rw [← r.length, List.length_map] at hi; exact hi
  have hj2 : i < ys.length := by rw [← r2.length] at hj; exact hj
  have e1 : (ks.map V.str)[i]? = some (V.str ks[i]) := by rw [List.getElem?_map, List.getElem?_eq_getElem hi2]; rfl
  have rk : RelV (V.str ks[i]) key := by
    obtain ⟨u', a1, a2⟩ := r.get e1
    rw [hk] at a1; cases a1; exact a2
  have rv : RelV ys[i] v := by
    obtain ⟨u', a1, a2⟩ := r2.get (List.getElem?_eq_getElem hj2)
    rw [hv] at a1; cases a1; exact a2
  obtain ⟨t, rfl⟩ := rk
  refine ⟨.inr ks[i], ys[i], ?_, ?_, rv⟩
  · unfold zipKVL
    have e3 : (ks.zip ys)[i]? = some (ks[i], ys[i]) := List.getElem?_zip_eq_some.mpr ⟨List.getElem?_eq_getElem hi2, List.getElem?_eq_getElem hj2⟩
    rw [List.getElem?_map, e3]; rfl
  · show Value.isStrOf ks[i] (.str ks[i] t) = true
    simp [Value.isStrOf]
theorem pe_dictZipL {Kf : PySem.W.Frag} {a b : Expr} {ta tb : TE} {p1 p2 pos1 pos2 : Pos} (hK : X.K = Kf) (hc : X.calm = true) (hgd : Gl X "dict") (hmd : X.mg "dict" = none) (hgz : Gl X "zip") (hmz : X.mg "zip" = none) (ha : PE X a ta) (hb : PE X b tb)
    (na : starEach [a, b] X.env = (false, eval a X.env) :: starEach [b] X.env := by rfl) (nb : starEach [b] X.env = (false, eval b X.env) :: starEach [] X.env := by rfl) (hp : (backTo pos2 (starEach [b] X.env)).any (·.1) = false := by rfl)
    (nz : starEach [.Call (.Name "zip" p2) [a, b] [] pos2] X.env = (false, eval (.Call (.Name "zip" p2) [a, b] [] pos2) X.env) :: starEach [] X.env := by rfl) :
    PE X (.Call (.Name "dict" p1) [.Call (.Name "zip" p2) [a, b] [] pos2] [] pos1) (tDictZipL Kf ta tb) := by
  subst hK
  refine ⟨fun pins s σ H Q I h => ?_⟩
  have hz : wpAny (model X.prog X.w) X.A (eval (.Call (.Name "zip" p2) [a, b] [] pos2) X.env) (fun v s1 => ∃ (l l2 : Addr) (its its2 : List Value) (ks : List Str) (ys : List V) (H2 : Hp), ZippedL X pins σ l l2 its its2 H2 v s1 ∧ Vals (ks.map V.str) its ∧ Vals ys its2 ∧ ks.length ≤ sizeLine ∧ ∀ p, H2 p = none → Q (.ref p) (upd H2 p (.dK (mergeK [] (zipKVL ks ys))))) X.xe s := by
    refine Call_ (ld_blt I hgz hmz PyProof.Rows.boot_zip (PyProof.Rows.callWith_type1 (args_cons (thn (ha.run pins s σ H _ I h) fun v s1 ⟨x, H1, I1, r1, q1⟩ => one_arg hb I1 q1 (fun u s2 z H2 I2 r2 q => ?_) nb) na) na hp))
    obtain ⟨l, l2, ks, ys, rfl, rfl, hq, hq2, q⟩ := q
    obtain rfl : v = .ref l := r1
    obtain rfl : u = .ref l2 := r2
    obtain ⟨its, rv, pl, hsz⟩ := I2.list hq
    obtain ⟨its2, rv2, pl2, hsz2⟩ := I2.list hq2
    refine call_zip_2 pl.isList pl2.isList fun h1 a1 a2 a3 a4 a5 a6 a7 => ?_
    exact ⟨l, l2, its, its2, ks, ys, H2, ⟨s2, h1, rfl, rfl, I2, pl.lt, pl2.lt, a1, a2, a3, a4, a5, pl.isList.at fun o e => a7 _ o e, pl2.isList.at fun o e => a7 _ o e, a6, a7⟩, rv, rv2, by simpa using hsz, q⟩
  refine Call_ (ld_blt I hgd hmd boot_dict (PyProof.Rows.callWith_type1 (args_cons (thn hz fun x s1 ⟨l, l2, its, its2, ks, ys, H2, ⟨s2, h1, ev, es, I2, ll, ll2, a1, a2, a3, a4, a5, al, al2, a6, a7⟩, rv, rv2, hsz, q⟩ => args_nil ?_) nz) nz))
  subst ev es
  have len : its.length = ks.length := by rw [← rv.length, List.length_map]
  have len2 : its2.length = ys.length := by rw [← rv2.length]
  have hk0 : (zipKVL ks ys).length = min its.toArray.size its2.toArray.size := by unfold zipKVL; rw [List.length_map, List.length_zip, List.size_toArray, List.size_toArray, len, len2]
  refine call_dictZ (kvs := zipKVL ks ys) (n := min its.toArray.size its2.toArray.size) (PairArg.zip (prog := X.prog) (w := X.w) (s2.heap.objs.size + 4) (s2.heap.objs.size + 2) (s2.heap.objs.size + 3) s2.heap.objs.size (s2.heap.objs.size + 1) l l2 (PySem.W.ktu_apart s2.heap.objs.size l l2 ll ll2) its.toArray its2.toArray) (I2.ok.hd hc) ⟨a1, a2, ⟨_, _, a3⟩, a4, a5, al, al2⟩ hk0 (fun i key v hr => zip_keysL rv rv2 hr) (by simp; omega) fun h' tk vs kv hd hk => ?_
  have hbig : (h1.objs.size == sysModules) = false := beq_eq_false_iff_ne.mpr (by rw [a6]; exact Nat.ne_of_gt (Nat.lt_of_lt_of_le I2.big (Nat.le_add_right _ _)))
  have keep : ∀ b o, s2.heap.get? b = some o → h'.get? b = some o := fun b o e => hk b o (fun hm => by
    have lt := Heap.lt_size e
    simp only [List.mem_cons, List.not_mem_nil, or_false] at hm
    rcases hm with rfl | rfl | rfl | rfl
    · exact Nat.not_lt_of_le (Nat.le_add_right _ _) lt
    · exact Nat.not_lt_of_le (Nat.le_add_right _ _) lt
    · exact Nat.lt_irrefl _ lt
    · exact Nat.not_lt_of_le (Nat.le_add_right _ _) lt) (a7 b o e)
  refine ⟨.ref h1.objs.size, upd H2 h1.objs.size (.dK (mergeK [] (zipKVL ks ys))), I2.laid (t' := tk) keep (by rw [a6]; omega) (show ObjOk X.prog X.w _ _ _ (.dK (mergeK [] (zipKVL ks ys))) from ⟨?_, hbig, vs, kv, hd⟩), rfl, q _ (I2.hok.fresh (by rw [a6]; omega))⟩
  refine Nat.le_trans (length_mergeK _ []) ?_
  rw [List.length_nil, Nat.zero_add, hk0, List.size_toArray, len]; omega
end
end L2
namespace VL
open PySem L2
def dzipLL : List (List Nat) → List D → List (D × D) → List (D × D)
  | k :: ks, c :: cs, acc => dzipLL ks cs (storeD acc (.str k) c)
  | _, _, acc => acc
def dzipLD (a b : D) : Option (List (D × D)) := match a, b with
  | .lst l, .lst m => match strsD l with
    | some ks => some (dzipLL ks m [])
    | none => none
  | _, _ => none
variable [EC]
theorem repK_zipL {G : Hp} : ∀ (ks : List (List Nat)) (cs : List D) (ys : List V) {acc : List (D × D)} {kvs : List (Key × V)}, Reps G cs ys → RepK G acc kvs → RepK G (dzipLL ks cs acc) (mergeK kvs (((ks.map mkS).zip ys).map fun p => (Sum.inr p.1, p.2)))
  | [], cs, ys, acc, kvs, r, h => by cases cs <;> exact h
  | k :: ks, [], ys, acc, kvs, r, h => by cases (show ys = [] from r); exact h
  | k :: ks, c :: cs, _, acc, kvs, ⟨y, ys, e, r1, r2⟩, h => by
    subst e
    have h1 : RepK G (storeD acc (.str k) c) (putK kvs (.inr (mkS k)) y) := repK_store (kk := .inr (mkS k)) (d := .str k) (c := c) (by simp [kD, mkS]) r1 h
    exact repK_zipL ks cs ys r2 h1
section
variable {R : Type} {F : Fc} {tmp : Tmp} {s : State} {m : Res R} {K : Rs R} {N : Rn R} {Rt : Rr R} {ta tb : TE} {Kf : PySem.W.Frag}
theorem rd_dzipL (h : RD F tmp s ta m (fun tm1 s1 m1 => ∀ x, RD F ((x, tm1) :: tmp) s1 tb m1 (fun tm2 s2 m2 => ∃ a b k, valS s2 tm1 = some a ∧ valS s2 tm2 = some b ∧ m2 = ob (dzipLD a b) k ∧ ∀ c, K (.own (.dc false c)) s2 (k c)))) : RD F tmp s (tDictZipL Kf ta tb) m K := fun σ H Q hh nf eo q =>
  h σ H _ hh nf eo fun tm1 s1 x H1 h2 h1 => h2 x σ H1 _ h1 nf eo fun tm2 s2 u H2 ⟨a, b, k, ea, eb, em, hk⟩ h3 => by
    obtain ⟨c, ec, em'⟩ := ob_cases (by rw [← em]; exact nf)
    obtain ⟨G, ω, h3⟩ := h3
    have ra := h3.repC h3.tm.2.1 ea
    have rb := h3.repC h3.tm.1 eb
    cases a <;> try (cases ec; done)
    cases b <;> try (cases ec; done)
    rename_i l y
    simp only [dzipLD] at ec
    cases es : strsD l with
    | none => rw [es] at ec; cases ec
    | some ks =>
      rw [es] at ec
      cases ec
      obtain ⟨p, vs, e1, rd, z, r⟩ := ra
      obtain ⟨p', vs', e1', rd', z', r'⟩ := rb
      have ev := strs_ok es r
      subst ev
      refine ⟨p, p', ks.map mkS, vs', e1, e1', .inl rd, .inl rd', fun p2 np => ?_⟩
      refine q (.own (.dc false (dzipLL ks y []))) s2 _ _ (by rw [em, em']; exact hk _) ⟨G, _, h3.pop.pop.newO np ⟨p2, _, rfl, by simp, upd_same, ?_⟩⟩
      exact repK_zipL (G := G) ks y vs' (acc := []) (kvs := []) r' rfl
end
end VL
namespace VL
open PySem L2
section
variable {X : Cx} {Kf : PySem.W.Frag}
theorem sl_tupAK (hK : X.K = Kf) : SlR X (rSlA Kf) := hK ▸ sl_tupA
theorem op_catAK (hK : X.K = Kf) : OpR X (binaryOp .Add) (rCatA Kf) := hK ▸ op_catA
theorem pi_tupK {tg l : Expr} {tl : TE} (hK : X.K = Kf) (hl : PE X l tl) : PI X tg l (iTup Kf tl) := hK ▸ pi_tup hl
end
end VL

namespace VL
open PySem L2
section
variable {X : Cx} {pins : List (Addr × Obj)} {σ : L2.St} {H : Hp} {s : Shared} {d : Addr} {kvs : List (Key × V)}
theorem Inv.frzD (I : L2.Inv X pins σ H s) (h : H d = some (.dK kvs)) : ∃ o, L2.Inv X pins σ (upd H d (.frz o (.dK kvs))) s := by
  have q : ObjOk X.prog X.w H s.heap d (.dK kvs) := I.hok d _ h
  obtain ⟨hz, hs, vs, kv, o, es, ep, ho, r⟩ := id q
  refine ⟨o, ?_⟩
  exact I.write (t' := s.toks) (x := d) (e := d) (by rw [h]; exact trivial) (.inl rfl) (fun b' u hb hu => hu) ⟨o, ho⟩ ⟨ho, hz, hs, vs, kv, o, es, ep, ho, r⟩
def tFrzD (td : TE) : TE := fun σ H Q => td σ H fun x H1 => ∃ (d : Addr) (kvs : List (Key × V)), x = .ref d ∧ H1 d = some (.dK kvs) ∧ ∀ o, Q x (upd H1 d (.frz o (.dK kvs)))
theorem pe_frzD {e : Expr} {td : TE} (he : PE X e td) : PE X e (tFrzD td) := by
  refine ⟨fun pins s σ H Q I h => ?_⟩
  refine thn (he.run pins s σ H _ I h) fun u s1 ⟨x, H1, I1, rx, d, kvs, ex, hd, q⟩ => ?_
  obtain ⟨o, I2⟩ := Inv.frzD I1 hd
  exact ⟨x, _, I2, rx, q o⟩
end
variable [EC]
section
variable {F : Fc} {G H : Hp} {ω : Addr → Option Lab} {tmp : Tmp} {s : State} {σ : L2.St} {v : V}
/-- an own dict on top is walked from now on -/
theorem Hd.frzD {l : List (D × D)} (h : Hd F G ω ((v, .own (.dc false l)) :: tmp) s σ H) : ∃ a kvs, v = .ref a ∧ H a = some (.dK kvs) ∧ ∀ o, Holds F ((v, .own (.f (.fd o kvs l))) :: tmp) s σ (upd H a (.frz o (.dK kvs))) := by
  obtain ⟨a, kvs, e, w, ha, r⟩ := h.tm.1
  subst e
  obtain ⟨ga, _, hw⟩ := h.wg a _ w
  refine ⟨a, kvs, rfl, ha, fun o => ⟨upd G a (.frz o (.dK kvs)), fun b => if b = a then none else ω b, ?_⟩⟩
  have sG : Same G (upd G a (.frz o (.dK kvs))) := fun b u eb => by
    have hb : b ≠ a := fun z => by subst z; rw [ga] at eb; cases eb
    rw [upd_ne hb]; exact eb
  have mv : ∀ (p : Lab), (∀ x, [1, tmp.length] ≠ p ++ x) → ∀ b x, ω b = some (p ++ x) → upd H a (.frz o (.dK kvs)) b = H b ∧ (if b = a then none else ω b) = some (p ++ x) := fun p hp b x eb => by
    have hb : b ≠ a := fun z => by subst z; exact hp x (Option.some.inj (w.symm.trans eb))
    rw [upd_ne hb, if_neg hb]
    exact ⟨rfl, eb⟩
  refine ⟨fun b u eb => sG b u (h.g0 b u eb), fun b u eb => ?_, fun b u eb => ?_, fun b u e0 e1 => ?_, fun b u eb => ?_, fun b p eb => ?_, h.len, fun i t et => ?_, ⟨⟨a, rfl, upd_same, RepK.mono sG _ _ r⟩, ?_⟩, h.pn⟩
  · by_cases hb : b = a
    · subst hb; rw [upd_same] at eb; cases eb; exact upd_same
    · rw [upd_ne hb] at eb; rw [upd_ne hb]; exact h.gH b u eb
  · by_cases hb : b = a
    · subst hb; exact .inr hw
    · rw [upd_ne hb] at eb; exact h.gn b u eb
  · have hb : b ≠ a := fun z => by
      subst z
      rcases hw with q | q
      · rw [q] at e0; cases e0
      · rw [e1] at q; cases q
    rw [upd_ne hb]; exact h.fr b u e0 e1
  · by_cases hb : b = a
    · subst hb; exact ⟨_, upd_same⟩
    · rw [upd_ne hb]; exact h.ex b u eb
  · have eb' : (if b = a then none else ω b) = some p := eb
    by_cases hb : b = a
    · rw [if_pos hb] at eb'; cases eb'
    · rw [if_neg hb] at eb'
      obtain ⟨x1, x2, x3⟩ := h.wg b p eb'
      rw [upd_ne hb, upd_ne hb]
      exact ⟨x1, x2, x3⟩
  · obtain ⟨v', e1, e2⟩ := h.sl i t et
    exact ⟨v', e1, Own.move sG _ _ t v' (mv [0, i] fun x z => by simp at z) e2⟩
  · refine Tms.move sG tmp (fun j b x hj eb => mv [1, j] (fun x z => ?_) b x eb) h.tm.2
    simp only [List.cons_append, List.nil_append, List.cons.injEq, true_and] at z
    omega
end
section
variable {R : Type} {F : Fc} {tmp : Tmp} {s : State} {m : Res R} {K : Rs R} {ta td : TE}
theorem rd_frzD (h : RD F tmp s td m (fun tm s1 m1 => ∃ l, tm = .own (.dc false l) ∧ ∀ o kvs, K (.own (.f (.fd o kvs l))) s1 m1)) : RD F tmp s (tFrzD td) m K := fun σ H Q hh nf eo q =>
  h σ H _ hh nf eo fun tm s1 x H1 ⟨l, et, hk⟩ h1 => by
    subst et
    obtain ⟨G, ω, h2⟩ := h1
    obtain ⟨a, kvs, e, ha, hf⟩ := h2.frzD
    exact ⟨a, kvs, e, ha, fun o => q _ s1 x _ (hk o kvs) (hf o)⟩
theorem rep_kD {G : Hp} (k : Key) : Rep G (kD k) (kV k) := by
  cases k with
  | inl i => rfl
  | inr x => show V.str x = V.str (mkS x.cps.toList); rw [mkS_of]
theorem repK_at {G : Hp} : ∀ {l : List (D × D)} {kvs : List (Key × V)} {i : Nat} {p : D × D}, RepK G l kvs → l[i]? = some p → ∃ k v, kvs[i]? = some (k, v) ∧ p.1 = kD k ∧ Rep G p.2 v
  | [], _, _, _, _, e => by simp at e
  | (kd, d) :: ds, _, 0, p, ⟨kk, v, r, e, ek, h, q⟩, e2 => by
    subst e; simp at e2; subst e2; exact ⟨kk, v, rfl, ek, h⟩
  | (kd, d) :: ds, _, i + 1, p, ⟨kk, v, r, e, ek, h, q⟩, e2 => by
    subst e
    obtain ⟨k, v', a, b, c⟩ := repK_at (i := i) q (by simpa using e2)
    exact ⟨k, v', by simpa using a, b, c⟩
theorem repK_len {G : Hp} : ∀ {l : List (D × D)} {kvs : List (Key × V)}, RepK G l kvs → l.length = kvs.length
  | [], _, h => by cases (show _ = [] from h); rfl
  | (kd, d) :: ds, _, ⟨kk, v, r, e, ek, h, q⟩ => by subst e; simp [repK_len q]
def itemsD (l : List (D × D)) : List D := l.map fun kv => .tup [kv.1, kv.2]
def itemsQ (l : List (D × D)) : Option (List D) := if l.length ≤ 1000000 then some (itemsD l) else none
theorem ri_items {K : Ki R} (h : RD F tmp s td m (fun tm s1 m1 => ∃ l k, tm = .own (.dc false l) ∧ m1 = ob (itemsQ l) k ∧ ∀ ds o kvs v, K [(v, .own (.f (.fd o kvs l)))] (fun _ => True) id ds s1 (k ds))) : RI F tmp s m (iItems (tFrzD td)) K := fun σ H Q hh nf eo q =>
  h σ H _ hh nf eo fun tm0 s1 x H1 ⟨l, k0, et, em, hk0⟩ h1 => by
    subst et
    obtain ⟨ds, ed, em'⟩ := ob_cases (by rw [← em]; exact nf)
    unfold itemsQ at ed
    split at ed
    case isFalse => cases ed
    rename_i hll
    cases ed
    have hk := hk0 (itemsD l)
    rw [← em', ← em] at hk
    obtain ⟨G0, ω0, h2⟩ := h1
    obtain ⟨a, kvs, e, ha, hf⟩ := h2.frzD
    subst e
    refine ⟨a, kvs, rfl, ha, fun o => ⟨a, o, kvs, rfl, upd_same, ?_⟩⟩
    have hh3 := hf o
    have at_ : ∀ (pre : Tmp) s σ H, Holds F (pre ++ ([(.ref a, .own (.f (.fd o kvs l)))] ++ tmp)) s σ H → ∃ G ω, H a = some (.frz o (.dK kvs)) ∧ Hd F G ω (pre ++ ([(.ref a, .own (.f (.fd o kvs l)))] ++ tmp)) s σ H ∧ RepK G l kvs := fun pre s σ H ⟨G, ω, h⟩ => by
      obtain ⟨a', e1, g, r⟩ : Rep G (.fd o kvs l) (.ref a) := Tms.at (tm := .own (.f (.fd o kvs l))) (tmp := tmp) pre h.tm
      cases e1
      exact ⟨G, ω, h.gH _ _ g, h, r⟩
    obtain ⟨G, ω, g, h3, r⟩ := at_ [] s1 σ _ hh3
    have hlen := repK_len r
    refine q [(.ref a, .own (.f (.fd o kvs l)))] _ id _ s1 (Iti a o kvs) _ (hk o kvs _) ⟨fun pre s σ H _ h => h.dropMid pre, ?_, fun s σ H i hp hh hi => ?_, fun s σ H hp hh => ?_, fun pre s σ H i d y H' hp hh hd hy => ?_⟩ hh3
    · rw [itemsD, List.length_map, sizeLine_eq]; omega
    · obtain ⟨_, _, g2, _, _⟩ := at_ [] s σ H hh
      rw [itemsD, List.length_map] at hi
      exact ⟨g2, by rw [← hlen]; exact hi⟩
    · obtain ⟨_, _, g2, _, _⟩ := at_ [] s σ H hh
      exact ⟨g2, by rw [itemsD, List.length_map, hlen]; exact Nat.le_refl _⟩
    · obtain ⟨G', ω', g2, h4, r2⟩ := at_ pre s σ H hh
      obtain ⟨T, k, v, e1, e2, np, e3⟩ := hy
      subst e2 e3
      rw [itemsD, List.getElem?_map] at hd
      cases el : l[i]? with
      | none => rw [el] at hd; cases hd
      | some p =>
        rw [el] at hd
        cases hd
        obtain ⟨k', v', b1, b2, b3⟩ := repK_at r2 el
        rw [e1] at b1; cases b1
        obtain ⟨p1, p2⟩ := p
        have b2' : p1 = kD k := b2
        subst b2'
        exact h4.pushNewT np (rep_kD k) b3
theorem rd_get2 {ty tx : TE} (h : RD F tmp s td m (fun tm1 s1 m1 => ∃ d k0, valS s1 tm1 = some d ∧ m1 = ob (asDc d) k0 ∧ ∀ p x, RD F ((x, tm1) :: tmp) s1 ty (k0 p) (fun tm2 s2 m2 => ∀ y, RD F ((y, tm2) :: (x, tm1) :: tmp) s2 tx m2 (fun tm3 s3 m3 => ∃ a b dz k, valS s3 tm1 = some a ∧ valS s3 tm2 = some b ∧ tm3 = .own (.f dz) ∧ m3 = ob (dget2D a b dz) k ∧ ∀ c, K (.own (.f c)) s3 (k c))))) : RD F tmp s (tDGet2 td ty tx) m K := fun σ H Q hh nf eo q =>
  h σ H _ hh nf eo fun tm1 s1 x H1 ⟨d, k0, e0, em0, h2⟩ h1 => by
    obtain ⟨p, ed, em0'⟩ := ob_cases (by rw [← em0]; exact nf)
    rw [asDc_eq ed] at e0
    have hd : ∃ a, x = .ref a ∧ IsD H1 a := by
      obtain ⟨G, ω, h3⟩ := h1
      have r := h3.repC h3.tm.1 e0
      obtain ⟨k1, l1⟩ := p
      cases k1 with
      | false => obtain ⟨a, kvs, e, g, _⟩ := r; exact ⟨a, e, .inl ⟨kvs, g⟩⟩
      | true => obtain ⟨a, kvs, e, g, _⟩ := r; exact ⟨a, e, .inr ⟨kvs, .inl g⟩⟩
    obtain ⟨a0, ea0, hisd⟩ := hd
    have h2' := h2 p x
    rw [← em0', ← em0] at h2'
    refine ⟨a0, ea0, hisd, h2' σ H1 _ h1 nf eo fun tm2 s2 y H2 h2'' h3' => h2'' y σ H2 _ h3' nf eo fun tm3 s3 z H3 ⟨a, b, dz, k, ea, eb, et, em, hk⟩ h3 => ?_⟩
    obtain ⟨c, ec, em'⟩ := ob_cases (by rw [← em]; exact nf)
    subst et
    have h4 := h3
    obtain ⟨G, ω, h3⟩ := h3
    have ra := h3.repC h3.tm.2.2.1 ea
    have rb := h3.repC h3.tm.2.1 eb
    have rz : Rep G dz z := h3.tm.1
    cases a <;> try (cases ec; done)
    simp only [dget2D] at ec
    split at ec
    · rename_i ok
      obtain ⟨p, o, e1, g, w⟩ := dget_any h3.gH ra rb ok
      have e1' : x = .ref p := e1
      rw [ea0] at e1'; cases e1'
      refine ⟨o, g, ?_⟩
      rcases w with ⟨w1, w2⟩ | ⟨c', v, w1, w2, w3⟩
      · rw [w1] at ec; cases ec
        rw [w2]
        exact q _ s3 z H3 (by rw [em, em']; exact hk _) ⟨G, ω, h3.pop.pop.pop.pushF rz⟩
      · rw [w1] at ec; cases ec
        rw [w2]
        exact q _ s3 v H3 (by rw [em, em']; exact hk _) ⟨G, ω, h3.pop.pop.pop.pushF w3⟩
    · cases ec
end
end VL

namespace VL
open PySem L2
variable [EC]
theorem Holds.wrTmpSet {F : Fc} {tmp : Tmp} {s : State} {σ : L2.St} {H : Hp} {D' : Addr} {acc : List D} {y : V} {d : D} (h : Holds F ((.ref D', .own (.l acc)) :: (y, .own (.f d)) :: tmp) s σ H) :
    ∃ vs, H D' = some (.lst vs) ∧ vs.length = acc.length ∧ ∀ n, Holds F ((.ref D', .own (.l (acc.set n d))) :: (y, .own (.f d)) :: tmp) s σ (upd H D' (.lst (vs.set n y))) := by
  obtain ⟨G, ω, h⟩ := h
  obtain ⟨⟨a, vs, e, ha, hw, z, r⟩, hy, ht⟩ := h.tm
  cases e
  refine ⟨vs, ha, r.length.symm, fun n => ⟨G, ω, h.wr hw _ rfl (fun j u e => ?_) ⟨⟨D', vs.set n y, rfl, upd_same, hw, by simpa using z, r.set n hy⟩, Tms.wrO hw ((y, .own (.f d)) :: tmp) (fun j hj => ?_) ⟨hy, ht⟩⟩⟩⟩
  · obtain ⟨v', b1, b2⟩ := h.sl j u e
    exact ⟨v', b1, Own.wrO hw (by simp [pre]) b2⟩
  · have : ¬ j = ((y, TM.own (.f d)) :: tmp).length := by omega
    simp [pre]; simp at this; omega
section
variable {R : Type} {F : Fc} {tmp : Tmp} {s : State} {m : Res R} {K : Rs R} {N : Rn R} {Rt : Rr R} {te ti tj tn : TE} {Kf : PySem.W.Frag}
theorem ll_back {ls : List (List D)} {j : Nat} (hj : ls[j]? = some (ls.getD j [])) : (ls.map T.l).set j (.l (ls.getD j [])) = ls.map T.l := by
  have hjl : j < ls.length := (List.getElem?_eq_some_iff.mp hj).1
  refine List.ext_getElem? fun k => ?_
  rw [List.getElem?_set]
  by_cases hk : j = k
  · subst hk
    rw [if_pos rfl, if_pos (by simpa using hjl), List.getElem?_map, hj]; rfl
  · rw [if_neg hk]
/-- x[i][j] -/
theorem rd_llix {i : Nat} {ls0 : List (List D)} (hs : s[i]? = some (some (.ll (ls0.map T.l))))
    (h : ∀ x, RD F ((x, .ali i) :: tmp) s ti m (fun tm1 s1 m1 => ∃ (d : D) (ls : List (List D)) (k : Nat → Res R), valS s1 tm1 = some d ∧ s1[i]? = some (some (.ll (ls.map T.l))) ∧ m1 = ob (ixNd ls.length d) k ∧
      ∀ j v, RD F ((v, .own (.l (ls.getD j []))) :: tmp) (s1.set i (some (.ll ((ls.map T.l).set j (.hole v))))) tj (k j) (fun tm2 s2 m2 => ∃ d2 k2, valS s2 tm2 = some d2 ∧ s2[i]? = some (some (.ll ((ls.map T.l).set j (.hole v)))) ∧
        m2 = ob (ixD (.lst (ls.getD j [])) d2) k2 ∧ ∀ c, K (.own (.f c)) (s2.set i (some (.ll (ls.map T.l)))) (k2 c)))) :
    RD F tmp s (tOp (rIxA Kf) (tOp (rIxA Kf) (tVar i) ti) tj) m K := fun σ H Q hh nf eo q => by
  refine rd_take hs hh nf eo fun x => fun σ' H' Q' hh' nf' eo' q' => h x σ' H' Q' hh' nf' eo' fun tm1 s1 y H1 ⟨d, ls, k, ed, hi, em, hk⟩ h1 => q' tm1 s1 y H1 ⟨d, ls, k, ed, hi, em, fun j hj v H2 em2 h2 => ?_⟩ h1
  have hkj := hk j v
  rw [← em2] at hkj
  refine hkj σ H2 _ h2 nf eo fun tm2 s2 w H3 ⟨d2, k2, e2, hi2, em3, hk2⟩ h3 => ?_
  obtain ⟨c, ec, em4⟩ := ob_cases (by rw [← em3]; exact nf)
  have hjl : j < ls.length := (List.getElem?_eq_some_iff.mp hj).1
  obtain ⟨G, ω, h5⟩ := h3
  refine o_ix G H3 v w (.lst (ls.getD j [])) d2 c Q h5.gH (h5.repC h5.tm.2.1 rfl) (h5.repC h5.tm.1 e2) ec fun u ru => ?_
  have h7 := Holds.putIn [(u, .own (.f c))] (j := j) (t := .l (ls.getD j [])) (v := v) ⟨G, ω, h5.pop.pushF ru⟩ hi2 (by rw [List.getElem?_set_self (by simpa using hjl)])
  rw [List.set_set, ll_back hj] at h7
  exact q _ _ u _ (by rw [em3, em4]; exact hk2 _) h7
/-- x[i][n] = e -/
theorem rs_llset {i : Nat} (h : RD F tmp s te m (fun tm1 s1 m1 => ∃ (d : D) (ls0 : List (List D)), tm1 = .own (.f d) ∧ s1[i]? = some (some (.ll (ls0.map T.l))) ∧
      ∀ v x, RD F ((x, .ali i) :: (v, .own (.f d)) :: tmp) s1 ti m1 (fun tm2 s2 m2 => ∃ (d2 : D) (ls : List (List D)) (k : Nat → Res R), valS s2 tm2 = some d2 ∧ s2[i]? = some (some (.ll (ls.map T.l))) ∧ m2 = ob (ixNd ls.length d2) k ∧
      ∀ j w, RD F ((w, .own (.l (ls.getD j []))) :: (v, .own (.f d)) :: tmp) (s2.set i (some (.ll ((ls.map T.l).set j (.hole w))))) tn (k j) (fun tm3 s3 m3 => ∃ d3 k3, valS s3 tm3 = some d3 ∧ s3[i]? = some (some (.ll ((ls.map T.l).set j (.hole w)))) ∧
        m3 = ob (setL (ls.getD j []) d3 d) k3 ∧ ∀ ds', N (s3.set i (some (.ll ((ls.set j ds').map T.l)))) (k3 ds'))))) :
    RS F tmp s m (tAsg te (gSub (tOp (rIxA Kf) (tVar i) ti) tn rSetL)) N Rt := fun σ H De hh nf eo nx rt =>
  h σ H _ hh nf eo fun tm1 s1 v H1 ⟨d, ls0, e1, hs, h2⟩ h1 => by
    subst e1
    refine rd_take hs h1 nf eo fun x => fun σ' H' Q' hh' nf' eo' q' => h2 v x σ' H' Q' hh' nf' eo' fun tm2 s2 y H2 ⟨d2, ls, k, ed, hi, em, hk⟩ h3 => q' tm2 s2 y H2 ⟨d2, ls, k, ed, hi, em, fun j hj w H3 em2 h4 => ?_⟩ h3
    have hkj := hk j w
    rw [← em2] at hkj
    refine hkj σ H3 _ h4 nf eo fun tm3 s3 y3 H4 ⟨d3, k3, e3, hi3, em3, hk3⟩ h5 => ?_
    obtain ⟨c, ec, em4⟩ := ob_cases (by rw [← em3]; exact nf)
    have hjl : j < ls.length := (List.getElem?_eq_some_iff.mp hj).1
    have ey : ∃ z, d3 = .int z ∧ y3 = .int z := by
      obtain ⟨G, ω, h6⟩ := h5
      have r := h6.repC h6.tm.1 e3
      cases d3 <;> try (cases ec; done)
      exact ⟨_, rfl, r⟩
    obtain ⟨z, rfl, rfl⟩ := ey
    simp only [setL] at ec
    cases e4 : ixN (ls.getD j []).length z with
    | none => rw [e4] at ec; cases ec
    | some n =>
      rw [e4] at ec
      cases ec
      have h6 := h5.pop
      obtain ⟨a, e⟩ : ∃ a, w = .ref a := by
        obtain ⟨G, ω, h7⟩ := h6
        obtain ⟨a, vs, e, _⟩ := h7.tm.1
        exact ⟨a, e⟩
      subst e
      obtain ⟨vs, ha, hl, hset⟩ := h6.wrTmpSet
      refine ⟨a, vs, z, n, rfl, rfl, ha, by rw [hl]; exact e4, ?_⟩
      have h7 := Holds.putIn [] (j := j) (hset n) hi3 (by rw [List.getElem?_set_self (by simpa using hjl)])
      rw [List.set_set] at h7
      have h8 : (ls.map T.l).set j (.l ((ls.getD j []).set n d)) = (ls.set j ((ls.getD j []).set n d)).map T.l := by rw [List.map_set]
      rw [h8] at h7
      exact nx _ σ _ (by rw [em3, em4]; exact hk3 _) h7.pop
end
end VL

namespace VL
open PySem L2 PySem.W PyProof.Rows
variable [EC]
/-! sorted, list, len of a dict -/
theorem repK_keys {G : Hp} : ∀ {l : List (D × D)} {kvs : List (Key × V)}, RepK G l kvs → l.map (·.1) = kvs.map fun kv => kD kv.1
  | [], _, h => by cases (show _ = [] from h); rfl
  | (kd, d) :: ds, _, ⟨kk, v, r, e, ek, h, q⟩ => by subst e; simp [ek, repK_keys q]
theorem reps_keysV {G : Hp} : ∀ (kvs : List (Key × V)), Reps G (kvs.map fun kv => kD kv.1) (kvs.map fun kv => kV kv.1)
  | [] => rfl
  | (.inl i, v) :: r => ⟨_, _, rfl, rfl, reps_keysV r⟩
  | (.inr x, v) :: r => ⟨_, _, rfl, by show V.str x = V.str (mkS x.cps.toList); rw [mkS_of], reps_keysV r⟩
def listDD : D → Option (List D) | .dct false l => if l.length ≤ 16777216 then some (l.map (·.1)) else none | _ => none
def rListDK : List V → Hp → VK → Prop := fun xs H Q => ∃ (a : Addr) (kvs : List (Key × V)), xs = [.ref a] ∧ Rd H a (.dK kvs) ∧ ∀ p, H p = none → Q (.ref p) (upd H p (.lst (kvs.map fun kv => kV kv.1)))
theorem call_listDK {X : Cx} (hc : X.calm = true) : CallR X (.type "list") rListDK := call_listD hc
theorem o_listDK : Op1L (fun x H Q => rListDK [x] H Q) listDD := fun G H x a c Q sm ra e => by
  cases a <;> try (cases e; done)
  rename_i k l
  cases k <;> try (cases e; done)
  simp only [listDD] at e
  split at e <;> cases e
  rename_i hl
  obtain ⟨p, kvs, e1, g, r⟩ := ra
  refine ⟨by rw [List.length_map, sizeLine_eq]; exact hl, fun q => ⟨p, kvs, by rw [e1], g, fun a np => q a _ np ?_⟩⟩
  rw [repK_keys r]; exact reps_keysV kvs
def lenDD : D → Option D | .dct false l => some (.int l.length) | _ => none
def rLenDK : List V → Hp → VK → Prop := fun xs H Q => ∃ a kvs, xs = [V.ref a] ∧ Rd H a (.dK kvs) ∧ Q (.int kvs.length) H
theorem call_lenDK {X : Cx} : CallR X (.builtin "len") rLenDK := by
  intro pins s σ H xs us Q I r q
  obtain ⟨a, kvs, ex, e, q⟩ := q
  subst ex
  obtain ⟨u, eu, rx⟩ := vals1 r
  subst eu
  cases rx
  exact d_len I e fun t s2 I2 => ⟨.int kvs.length, H, I2, ⟨t, rfl⟩, q⟩
theorem o_lenDK : Op1C (fun x H Q => rLenDK [x] H Q) lenDD := fun G H x a c Q sm ra e q => by
  cases a <;> try (cases e; done)
  rename_i k l
  cases k <;> try (cases e; done)
  cases e
  obtain ⟨p, kvs, e1, g, r⟩ := ra
  exact ⟨p, kvs, by rw [e1], g, by rw [← repK_len r]; exact q _ rfl⟩
def sortDD : D → Option (List D) | .dct false l => if sortOk (l.map (·.1)) = true then some ((l.map (·.1)).mergeSort leD') else none | _ => none
def rSortDK : List V → Hp → VK → Prop := fun vs H Q => ∃ (a : Addr) (kvs : List (Key × V)) (l : List D), vs = [V.ref a] ∧ Rd H a (.dK kvs) ∧ l = (kvs.map fun kv => kD kv.1) ∧ sortOk l = true ∧ ∀ ys p, Reps H (l.mergeSort leD') ys → H p = none → Q (.ref p) (upd H p (.lst ys))
theorem reps_flat {G H : Hp} {l : List D} (hl : ∀ d ∈ l, d.flat = true) {ys : List V} (r : Reps H l ys) : Reps G l ys := by
  induction l generalizing ys with
  | nil => exact r
  | cons d l ih =>
    obtain ⟨v, r0, e, h, q⟩ := r
    refine ⟨v, r0, e, ?_, ih (fun d' h' => hl d' (List.mem_cons_of_mem _ h')) q⟩
    have := hl d List.mem_cons_self
    cases d <;> first | (cases this; done) | exact h
theorem kD_flat (k : Key) : (kD k).flat = true := by cases k <;> rfl
section
variable {X : Cx} {pins : List (Addr × Obj)} {σ : List (Option V)} {H : Hp} {s : Shared}
theorem key_reads (h : Heap) (k : Key) {v : Value} (r : RelV (kV k) v) : Reads h v (py (kD k)) [] := by
  cases k with
  | inl i => obtain ⟨t, rfl⟩ := r; exact .int _ _
  | inr x =>
    obtain ⟨t, rfl⟩ := r
    show Reads h _ (.str (mkS x.cps.toList)) []
    rw [mkS_of]; exact .str _ _
theorem each_keys (h : Heap) (a : Addr) : ∀ (ks : List Key) (us : List Value), Vals (ks.map kV) us → EachIs (RelD H) us (ks.map kD) ∧ EachIs (fun v b => ∃ as, Reads h v (py b) as ∧ a ∉ as) us (ks.map kD)
  | [], us, r => by cases r; exact ⟨.nil, .nil⟩
  | k :: ks, us, r => by
    cases r with
    | cons z1 v1 =>
      obtain ⟨e1, e2⟩ := each_keys h a ks _ v1
      exact ⟨.cons ⟨kV k, z1, rep_kD k⟩ e1, .cons ⟨[], key_reads h k z1, by simp⟩ e2⟩
theorem cr_sortedDK (hcalm : X.calm = true) (hu : X.A.units + 64 < cLine) : CallR X (.builtin "sorted") rSortDK := by
  intro pins s σ H xs us Q I r q
  obtain ⟨a, kvs, l, ex, hd, hks, hok, q⟩ := q
  subst ex
  obtain ⟨u, eu, rx⟩ := vals1 r
  subst eu
  cases rx
  obtain ⟨z, lo, vs, rel, dd⟩ := dk_rd I.hok hd
  obtain ⟨ep, hat⟩ := dd.dictAt
  simp only [sortOk, Bool.and_eq_true, decide_eq_true_eq, Bool.or_eq_true] at hok
  obtain ⟨⟨⟨⟨p1, p2⟩, p3⟩, p4⟩, p5⟩ := hok
  have hl : vs.length = l.length := by rw [hks, List.length_map, ← rel.length]
  have h16 : vs.length ≤ sizeLine := by rw [hl, sizeLine_eq]; exact p5
  refine Calls.call_function_entry PyProof.Rows.kind_sorted PyProof.Rows.plain_sorted PyProof.Rows.entry_sorted (PyProof.Rows.args_sorted1 _) ?_
  unfold Builtin.«sorted»
  refine wpAny_bind (m := checkCount "sorted" 1 1 _) (wpAny_pure ?_)
  refine wpAny_bind (PySem.W.kdu_collect (A := X.A.in1) (PySem.W.kdl_dict (knd := mixKind X.prog X.w) (kvs := vs) (ep := ep) lo) (I.ok.hd hcalm) hat h16 fun h' tk acc hk hacc => ?_)
  have hv : Vals (vs.map fun p => kV p.1) acc.toList := keys_at (by rw [Array.length_toList]; exact hacc.1) fun j v e => hacc.2 j v (by rw [← Array.getElem?_toList]; exact e)
  have hv2 : Vals ((vs.map (·.1)).map kV) acc.toList := by rw [List.map_map]; exact hv
  have hl2 : l = (vs.map (·.1)).map kD := by
    rw [hks]
    have e := congrArg (List.map kD) rel.keys
    rw [List.map_map] at e
    exact e
  have I1 : Inv X pins σ H { s with heap := h', toks := tk } := I.kept hk
  have hal : acc.toList.length = l.length := by rw [Array.length_toList, hacc.1, hl]
  refine wpAny_bind (wpAny_newList ?_ (by rw [hal, sizeLine_eq]; exact p5))
  have hoL : (h'.push (seqObj "list" acc.toList.toArray 0)).get? h'.objs.size = some (seqObj "list" acc.toList.toArray 0) := Heap.get?_push_size _ rfl
  show wpAny _ _ _ _ _ { s with heap := h'.push (seqObj "list" acc.toList.toArray 0), toks := tk }
  obtain ⟨e1, e2⟩ := each_keys (H := H) (h'.push (seqObj "list" acc.toList.toArray 0)) h'.objs.size _ _ hv2
  rw [← hl2] at e1 e2
  have halk : AllAlike (l.map py) := by
    intro d hd d' hd'
    obtain ⟨b, hb, rfl⟩ := List.mem_map.mp hd
    obtain ⟨b', hb', rfl⟩ := List.mem_map.mp hd'
    exact List.all_eq_true.mp (List.all_eq_true.mp p3 b hb) b' hb'
  have hflat : ∀ d ∈ l, d.flat = true := fun d hd => by
    rw [hks] at hd
    obtain ⟨kv, _, rfl⟩ := List.mem_map.mp hd
    exact kD_flat _
  have hk2 : Sortable (l.map py) := by
    refine .inr fun d hd => ?_
    obtain ⟨b, hb, rfl⟩ := List.mem_map.mp hd
    rw [hks] at hb
    obtain ⟨kv, _, rfl⟩ := List.mem_map.mp hb
    cases kv.1 <;> exact ⟨(fun z => by cases z), fun _ z => by cases z⟩
  refine wpAny_bind (wpAny_holding (list_sort_data (R := RelD H) (s := { s with heap := h'.push (seqObj "list" acc.toList.toArray 0), toks := tk }) hoL e1 e2 halk hk2 (by rw [sizeLine_eq]; exact p5) (fun b hb => ?_) fun out ho eo => ?_))
  · have h1 := py_depth b (plains_mem p1 hb)
    have h2 := deps_mem hb
    show X.A.in1.units + 1 + (py b).depth < cLine
    rw [in1_units]
    omega
  · obtain ⟨e', he'⟩ := PyProof.Rows.sortedHeap_at (vs := acc.toList) (out := out.toArray) hoL
    obtain ⟨ys, v1, r1⟩ := of_each eo
    have hlen : ys.length ≤ sizeLine := by rw [v1.length, ho, sizeLine_eq]; omega
    refine wpAny_pure ⟨_, rfl, .ref h'.objs.size, upd H h'.objs.size (.lst ys), I1.laid (t' := tk) (fun b u e => ?_) (Nat.le_refl _)
      (show ObjOk X.prog X.w _ _ _ (.lst ys) from ⟨hlen, out, e', v1, he'⟩), rfl, q ys _ r1 (I1.hok.fresh (Nat.le_refl _))⟩
    have hb : b < h'.objs.size := Heap.lt_size e
    rw [PyProof.Rows.sortedHeap_old (Nat.ne_of_lt hb) (by rw [size_push']; exact Nat.lt_succ_of_lt hb)]
    exact Heap.get?_push_of_some _ e
end
theorem o_sortedDK : Op1L (fun x H Q => rSortDK [x] H Q) sortDD := fun G H x a c Q sm ra e => by
  cases a <;> try (cases e; done)
  rename_i k l
  cases k <;> try (cases e; done)
  simp only [sortDD] at e
  split at e
  · rename_i hok
    cases e
    obtain ⟨p, kvs, e1, g, r⟩ := ra
    have hk := repK_keys r
    have hok2 := hok
    simp only [sortOk, Bool.and_eq_true, decide_eq_true_eq] at hok2
    refine ⟨by rw [List.length_mergeSort, sizeLine_eq]; exact hok2.2, fun q => ⟨p, kvs, l.map (·.1), by rw [e1], g, hk, hok, fun ys a rs np => q a ys np (reps_flat (fun d hd => ?_) rs)⟩⟩
    rw [List.mem_mergeSort, hk] at hd
    obtain ⟨kv, _, rfl⟩ := List.mem_map.mp hd
    exact kD_flat _
  · cases e
section
variable {R : Type} {F : Fc} {tmp : Tmp} {s : State} {m : Res R}
theorem rgs_lastG {g : TG} {is : List Nat} {d : D} {K : State → Res R → Prop} (h : RG F tmp s m is g d K) : RGs F tmp s m is (gCons g gNil) [d] K := fun xs hl σ H Q hh nf eo q => by
  match xs, hl with
  | [x], _ =>
    refine ⟨x, [], rfl, ?_⟩
    exact h σ H x _ hh nf eo fun s' σ' H' hk h3 hj hl2 => ⟨rfl, q s' σ' H' hk h3 hj hl2⟩
end
end VL

namespace VL
open PySem L2
/-! walks over own dicts; xs[::-1]; range with three arguments -/
theorem pe_revLK {X : Cx} {Kf : PySem.W.Frag} (hK : X.K = Kf) {e : Expr} {te : TE} {k : Nat} {p1 p2 p3 pos : Pos} (he : PE X e te) : PE X (.Subscript e (.Slice none none (some (.UnaryOp .USub (.Constant (.int 1) k p1) p2)) p3) pos) (tRevL Kf te) := by
  subst hK; exact pe_revL he
def revD : D → Option (List D) | .lst l => some l.reverse | _ => none
def rngD3 (a b c : D) : Option (List D) := match a, b, c with
  | .int i, .int j, .int s => if s ≠ 0 ∧ s.natAbs < 1073741824 ∧ Builtin.Range.small i j s = true ∧ 0 ≤ Builtin.Range.rangeSize i j s ∧ Builtin.Range.rangeSize i j s ≤ 16777216 then some ((List.range (Builtin.Range.rangeSize i j s).toNat).map fun k => .int (i + (k : Nat) * s)) else none
  | _, _, _ => none
def keysL (l : List (D × D)) : List D := l.map (·.1)
def valsL (l : List (D × D)) : List D := l.map (·.2)
def keysQ (l : List (D × D)) : Option (List D) := if l.length ≤ 1000000 then some (l.map (·.1)) else none
def valsQ (l : List (D × D)) : Option (List D) := if l.length ≤ 1000000 then some (l.map (·.2)) else none
variable [EC]
section
variable {F : Fc} {G H : Hp} {ω : Addr → Option Lab} {tmp : Tmp} {s : State} {σ : L2.St} {v : V}
theorem Hd.frzV {i : Nat} {l : List (D × D)} (h : Hd F G ω tmp s σ H) (hs : s[i]? = some (some (.dc false l))) : ∃ a kvs, σ[i]? = some (some (.ref a)) ∧ H a = some (.dK kvs) ∧ ∀ o, Holds F ((.ref a, .own (.f (.fd o kvs l))) :: tmp) (s.set i (some (.f (.dct false l)))) σ (upd H a (.frz o (.dK kvs))) := by
  obtain ⟨v, ev, a, kvs, e, w, ha, r⟩ := h.sl i _ hs
  subst e
  obtain ⟨ga, _, hw⟩ := h.wg a _ w
  refine ⟨a, kvs, ev, ha, fun o => ⟨upd G a (.frz o (.dK kvs)), fun b => if b = a then none else ω b, ?_⟩⟩
  have sG : Same G (upd G a (.frz o (.dK kvs))) := fun b u eb => by
    have hb : b ≠ a := fun z => by subst z; rw [ga] at eb; cases eb
    rw [upd_ne hb]; exact eb
  have mv : ∀ (p : Lab), (∀ x, [0, i] ≠ p ++ x) → ∀ b x, ω b = some (p ++ x) → upd H a (.frz o (.dK kvs)) b = H b ∧ (if b = a then none else ω b) = some (p ++ x) := fun p hp b x eb => by
    have hb : b ≠ a := fun z => by subst z; exact hp x (Option.some.inj (w.symm.trans eb))
    rw [upd_ne hb, if_neg hb]
    exact ⟨rfl, eb⟩
  refine ⟨fun b u eb => sG b u (h.g0 b u eb), fun b u eb => ?_, fun b u eb => ?_, fun b u e0 e1 => ?_, fun b u eb => ?_, fun b p eb => ?_, by simpa using h.len, fun j t et => ?_, ⟨⟨a, rfl, upd_same, RepK.mono sG _ _ r⟩, ?_⟩, h.pn⟩
  · by_cases hb : b = a
    · subst hb; rw [upd_same] at eb; cases eb; exact upd_same
    · rw [upd_ne hb] at eb; rw [upd_ne hb]; exact h.gH b u eb
  · by_cases hb : b = a
    · subst hb; exact .inr hw
    · rw [upd_ne hb] at eb; exact h.gn b u eb
  · have hb : b ≠ a := fun z => by
      subst z
      rcases hw with q | q
      · rw [q] at e0; cases e0
      · rw [e1] at q; cases q
    rw [upd_ne hb]; exact h.fr b u e0 e1
  · by_cases hb : b = a
    · subst hb; exact ⟨_, upd_same⟩
    · rw [upd_ne hb]; exact h.ex b u eb
  · have eb' : (if b = a then none else ω b) = some p := eb
    by_cases hb : b = a
    · rw [if_pos hb] at eb'; cases eb'
    · rw [if_neg hb] at eb'
      obtain ⟨x1, x2, x3⟩ := h.wg b p eb'
      rw [upd_ne hb, upd_ne hb]
      exact ⟨x1, x2, x3⟩
  · rw [List.getElem?_set] at et
    by_cases hj : i = j
    · subst hj
      have hi : i < s.length := (List.getElem?_eq_some_iff.mp hs).1
      rw [if_pos rfl, if_pos hi] at et
      cases et
      exact ⟨_, ev, a, kvs, rfl, .inr ⟨o, upd_same⟩, RepK.mono sG _ _ r⟩
    · rw [if_neg hj] at et
      obtain ⟨v', e1, e2⟩ := h.sl j t et
      exact ⟨v', e1, Own.move sG _ _ t v' (mv [0, j] fun x z => by simp at z; exact hj z.1) e2⟩
  · refine Tms.move sG tmp (fun j b x hj eb => mv [1, j] (fun x z => ?_) b x eb) h.tm
    simp at z
end
section
variable {R : Type} {F : Fc} {tmp : Tmp} {s : State} {m : Res R} {K : Rs R} {N : Rn R} {Rt : Rr R} {ta tb tc td : TE} {Kf : PySem.W.Frag}
theorem it_at {a : Addr} {o : Obj} {kvs : List (Key × V)} {l : List (D × D)} (pre : Tmp) {s : State} {σ : L2.St} {H : Hp} (hh : Holds F (pre ++ ([(.ref a, .own (.f (.fd o kvs l)))] ++ tmp)) s σ H) : ∃ G ω, H a = some (.frz o (.dK kvs)) ∧ Hd F G ω (pre ++ ([(.ref a, .own (.f (.fd o kvs l)))] ++ tmp)) s σ H ∧ RepK G l kvs := by
  obtain ⟨G, ω, h⟩ := hh
  obtain ⟨a', e1, g, r⟩ : Rep G (.fd o kvs l) (.ref a) := Tms.at (tm := .own (.f (.fd o kvs l))) (tmp := tmp) pre h.tm
  cases e1
  exact ⟨G, ω, h.gH _ _ g, h, r⟩
theorem it_keys {a : Addr} {o : Obj} {kvs : List (Key × V)} {l : List (D × D)} (hl : l.length ≤ 1000000) (hlen : l.length = kvs.length) : ItOk F tmp ([(.ref a, .own (.f (.fd o kvs l)))] ++ tmp) (fun _ => True) id (Itk a o kvs) (l.map (·.1)) := by
  refine ⟨fun pre s σ H _ h => h.dropMid pre, ?_, fun s σ H i hp hh hi => ?_, fun s σ H hp hh => ?_, fun pre s σ H i d y H' hp hh hd hy => ?_⟩
  · rw [List.length_map, sizeLine_eq]; omega
  · obtain ⟨_, _, g2, _, _⟩ := it_at [] hh
    rw [List.length_map] at hi
    exact ⟨g2, by rw [← hlen]; exact hi⟩
  · obtain ⟨_, _, g2, _, _⟩ := it_at [] hh
    exact ⟨g2, by rw [List.length_map, hlen]; exact Nat.le_refl _⟩
  · obtain ⟨G', ω', g2, h4, r2⟩ := it_at pre hh
    obtain ⟨rfl, k, v, e1, rfl⟩ := hy
    rw [List.getElem?_map] at hd
    cases el : l[i]? with
    | none => rw [el] at hd; cases hd
    | some p =>
      rw [el] at hd
      cases hd
      obtain ⟨k', v', b1, b2, b3⟩ := repK_at r2 el
      rw [e1] at b1; cases b1
      have b2' : p.1 = kD k := b2
      show Holds F ((kV k, TM.own (T.f p.1)) :: _) s σ H'
      rw [b2']
      exact ⟨G', ω', h4.pushF (rep_kD k)⟩
theorem it_vals {a : Addr} {o : Obj} {kvs : List (Key × V)} {l : List (D × D)} (hl : l.length ≤ 1000000) (hlen : l.length = kvs.length) : ItOk F tmp ([(.ref a, .own (.f (.fd o kvs l)))] ++ tmp) (fun _ => True) id (Itd a o kvs) (l.map (·.2)) := by
  refine ⟨fun pre s σ H _ h => h.dropMid pre, ?_, fun s σ H i hp hh hi => ?_, fun s σ H hp hh => ?_, fun pre s σ H i d y H' hp hh hd hy => ?_⟩
  · rw [List.length_map, sizeLine_eq]; omega
  · obtain ⟨_, _, g2, _, _⟩ := it_at [] hh
    rw [List.length_map] at hi
    exact ⟨g2, by rw [← hlen]; exact hi⟩
  · obtain ⟨_, _, g2, _, _⟩ := it_at [] hh
    exact ⟨g2, by rw [List.length_map, hlen]; exact Nat.le_refl _⟩
  · obtain ⟨G', ω', g2, h4, r2⟩ := it_at pre hh
    obtain ⟨rfl, k, e1⟩ := hy
    rw [List.getElem?_map] at hd
    cases el : l[i]? with
    | none => rw [el] at hd; cases hd
    | some p =>
      rw [el] at hd
      cases hd
      obtain ⟨k', v', b1, b2, b3⟩ := repK_at r2 el
      rw [e1] at b1; cases b1
      exact ⟨G', ω', h4.pushF b3⟩
theorem it_items {a : Addr} {o : Obj} {kvs : List (Key × V)} {l : List (D × D)} (hl : l.length ≤ 1000000) (hlen : l.length = kvs.length) : ItOk F tmp ([(.ref a, .own (.f (.fd o kvs l)))] ++ tmp) (fun _ => True) id (Iti a o kvs) (itemsD l) := by
  refine ⟨fun pre s σ H _ h => h.dropMid pre, ?_, fun s σ H i hp hh hi => ?_, fun s σ H hp hh => ?_, fun pre s σ H i d y H' hp hh hd hy => ?_⟩
  · rw [itemsD, List.length_map, sizeLine_eq]; omega
  · obtain ⟨_, _, g2, _, _⟩ := it_at [] hh
    rw [itemsD, List.length_map] at hi
    exact ⟨g2, by rw [← hlen]; exact hi⟩
  · obtain ⟨_, _, g2, _, _⟩ := it_at [] hh
    exact ⟨g2, by rw [itemsD, List.length_map, hlen]; exact Nat.le_refl _⟩
  · obtain ⟨G', ω', g2, h4, r2⟩ := it_at pre hh
    obtain ⟨T, k, v, e1, e2, np, e3⟩ := hy
    subst e2 e3
    rw [itemsD, List.getElem?_map] at hd
    cases el : l[i]? with
    | none => rw [el] at hd; cases hd
    | some p =>
      rw [el] at hd
      cases hd
      obtain ⟨k', v', b1, b2, b3⟩ := repK_at r2 el
      rw [e1] at b1; cases b1
      obtain ⟨p1, p2⟩ := p
      have b2' : p1 = kD k := b2
      subst b2'
      exact h4.pushNewT np (rep_kD k) b3
/-- an own dict at hand -/
def iOf (Φ : V → Hp → (It → Hp → Prop) → Prop) (te : TE) : TI := fun σ H Q => te σ H fun x H1 => Φ x H1 Q
theorem ri_dictT {K : Ki R} {Φ : V → Hp → (It → Hp → Prop) → Prop} {J : Addr → Obj → List (Key × V) → It} {ks : List (D × D) → List D}
    (hw : ∀ a o kvs H1 Q, H1 a = some (.frz o (.dK kvs)) → Q (J a o kvs) H1 → Φ (.ref a) H1 Q)
    (hit : ∀ {a : Addr} {o : Obj} {kvs : List (Key × V)} {l : List (D × D)}, l.length ≤ 1000000 → l.length = kvs.length → ItOk F tmp ([(.ref a, .own (.f (.fd o kvs l)))] ++ tmp) (fun _ => True) id (J a o kvs) (ks l))
    (h : RD F tmp s td m (fun tm s1 m1 => ∃ l k, tm = .own (.dc false l) ∧ m1 = ob (if l.length ≤ 1000000 then some (ks l) else none) k ∧ ∀ ds o kvs v, K [(v, .own (.f (.fd o kvs l)))] (fun _ => True) id ds s1 (k ds))) : RI F tmp s m (iOf Φ (tFrzD td)) K := fun σ H Q hh nf eo q =>
  h σ H _ hh nf eo fun tm0 s1 x H1 ⟨l, k0, et, em, hk0⟩ h1 => by
    subst et
    obtain ⟨ds, ed, em'⟩ := ob_cases (by rw [← em]; exact nf)
    split at ed
    case isFalse => cases ed
    rename_i hll
    cases ed
    have hk := hk0 (ks l)
    rw [← em', ← em] at hk
    obtain ⟨G0, ω0, h2⟩ := h1
    obtain ⟨a, kvs, e, ha, hf⟩ := h2.frzD
    subst e
    refine ⟨a, kvs, rfl, ha, fun o => hw a o kvs _ _ upd_same ?_⟩
    have hh3 := hf o
    obtain ⟨_, _, _, _, r⟩ := it_at [] hh3
    exact q [(.ref a, .own (.f (.fd o kvs l)))] _ id _ s1 (J a o kvs) _ (hk o kvs _) (hit hll (repK_len r)) hh3
theorem ri_dictV {K : Ki R} {Φ : V → Hp → (It → Hp → Prop) → Prop} {J : Addr → Obj → List (Key × V) → It} {ks : List (D × D) → List D} {i : Nat} {l : List (D × D)}
    (hw : ∀ a o kvs H1 Q, H1 a = some (.frz o (.dK kvs)) → Q (J a o kvs) H1 → Φ (.ref a) H1 Q)
    (hit : ∀ {a : Addr} {o : Obj} {kvs : List (Key × V)} {l : List (D × D)}, l.length ≤ 1000000 → l.length = kvs.length → ItOk F tmp ([(.ref a, .own (.f (.fd o kvs l)))] ++ tmp) (fun _ => True) id (J a o kvs) (ks l))
    (hs : s[i]? = some (some (.dc false l)))
    (h : ∃ k, m = ob (if l.length ≤ 1000000 then some (ks l) else none) k ∧ ∀ ds o kvs v, K [(v, .own (.f (.fd o kvs l)))] (fun _ => True) id ds (s.set i (some (.f (.dct false l)))) (k ds)) : RI F tmp s m (iOf Φ (tFrzD (tVar i))) K := fun σ H Q hh nf eo q => by
  obtain ⟨k0, em, hk0⟩ := h
  obtain ⟨ds, ed, em'⟩ := ob_cases (by rw [← em]; exact nf)
  split at ed
  case isFalse => cases ed
  rename_i hll
  cases ed
  have hk := hk0 (ks l)
  rw [← em', ← em] at hk
  obtain ⟨G0, ω0, h2⟩ := hh
  obtain ⟨a, kvs, e, ha, hf⟩ := h2.frzV hs
  refine ⟨.ref a, e, a, kvs, rfl, ha, fun o => hw a o kvs _ _ upd_same ?_⟩
  have hh3 := hf o
  obtain ⟨_, _, _, _, r⟩ := it_at [] hh3
  exact q [(.ref a, .own (.f (.fd o kvs l)))] _ id _ _ (J a o kvs) _ (hk o kvs _) (hit hll (repK_len r)) hh3
def phK : V → Hp → (It → Hp → Prop) → Prop := fun x H1 R => ∃ d o, x = .ref d ∧ ((∃ kvs, H1 d = some (.frz o (.dK kvs)) ∧ R (Itk d o kvs) H1) ∨ ∃ kvs, H1 d = some (.frz o (.dT kvs)) ∧ R (Itkt d o kvs) H1)
def phD : V → Hp → (It → Hp → Prop) → Prop := fun x H1 R => ∃ d o kvs, x = .ref d ∧ H1 d = some (.frz o (.dK kvs)) ∧ R (Itd d o kvs) H1
def phI : V → Hp → (It → Hp → Prop) → Prop := fun x H1 R => ∃ d o kvs, x = .ref d ∧ H1 d = some (.frz o (.dK kvs)) ∧ R (Iti d o kvs) H1
def phM : V → Hp → (It → Hp → Prop) → Prop := fun x H1 R => ∃ d o kvs, x = .ref d ∧ H1 d = some (.frz o (.dK kvs)) ∧ R (Itk d o kvs) H1
theorem ri_keys {K : Ki R} (h : RD F tmp s td m (fun tm s1 m1 => ∃ l k, tm = .own (.dc false l) ∧ m1 = ob (keysQ l) k ∧ ∀ ds o kvs v, K [(v, .own (.f (.fd o kvs l)))] (fun _ => True) id ds s1 (k ds))) : RI F tmp s m (iKeys (tFrzD td)) K :=
  ri_dictT (Φ := phK) (J := Itk) (ks := keysL) (fun a o kvs H1 Q g q => ⟨a, o, rfl, .inl ⟨kvs, g, q⟩⟩) it_keys h
theorem ri_keysV {K : Ki R} {i : Nat} {l : List (D × D)} (hs : s[i]? = some (some (.dc false l))) (h : ∃ k, m = ob (keysQ l) k ∧ ∀ ds o kvs v, K [(v, .own (.f (.fd o kvs l)))] (fun _ => True) id ds (s.set i (some (.f (.dct false l)))) (k ds)) : RI F tmp s m (iKeys (tFrzD (tVar i))) K :=
  ri_dictV (Φ := phK) (J := Itk) (ks := keysL) (fun a o kvs H1 Q g q => ⟨a, o, rfl, .inl ⟨kvs, g, q⟩⟩) it_keys hs h
theorem ri_itemsV {K : Ki R} {i : Nat} {l : List (D × D)} (hs : s[i]? = some (some (.dc false l))) (h : ∃ k, m = ob (itemsQ l) k ∧ ∀ ds o kvs v, K [(v, .own (.f (.fd o kvs l)))] (fun _ => True) id ds (s.set i (some (.f (.dct false l)))) (k ds)) : RI F tmp s m (iItems (tFrzD (tVar i))) K :=
  ri_dictV (Φ := phI) (J := Iti) (ks := itemsD) (fun a o kvs H1 Q g q => ⟨a, o, kvs, rfl, g, q⟩) it_items hs h
theorem ri_valsV {K : Ki R} {i : Nat} {l : List (D × D)} (hs : s[i]? = some (some (.dc false l))) (h : ∃ k, m = ob (valsQ l) k ∧ ∀ ds o kvs v, K [(v, .own (.f (.fd o kvs l)))] (fun _ => True) id ds (s.set i (some (.f (.dct false l)))) (k ds)) : RI F tmp s m (iVals (tFrzD (tVar i))) K :=
  ri_dictV (Φ := phD) (J := Itd) (ks := valsL) (fun a o kvs H1 Q g q => ⟨a, o, kvs, rfl, g, q⟩) it_vals hs h
/-- xs[::-1] -/
theorem rd_revL (h : RD F tmp s ta m (fun tm1 s1 m1 => ∃ a k, valS s1 tm1 = some a ∧ m1 = ob (revD a) k ∧ ∀ c, K (.own (.l c)) s1 (k c))) : RD F tmp s (tRevL Kf ta) m K := fun σ H Q hh nf eo q =>
  h σ H _ hh nf eo fun tm1 s1 x H1 ⟨a, k, ea, em, hk⟩ h1 => by
    obtain ⟨c, ec, em'⟩ := ob_cases (by rw [← em]; exact nf)
    obtain ⟨G, ω, h1⟩ := h1
    have ra := h1.repC h1.tm.1 ea
    cases a <;> try (cases ec; done)
    cases ec
    obtain ⟨p, vs, e, g, z, r⟩ := ra
    exact ⟨p, vs, e, .inl g, fun a' np => q _ s1 _ _ (by rw [em, em']; exact hk _) (h1.pop.newL np (by rw [List.length_reverse]; exact z) r.reverse)⟩
theorem ri_range3 {K : Ki R} (h : RD F tmp s ta m (fun tm1 s1 m1 => ∀ x, RD F ((x, tm1) :: tmp) s1 tb m1 (fun tm2 s2 m2 => ∀ y, RD F ((y, tm2) :: (x, tm1) :: tmp) s2 tc m2 (fun tm3 s3 m3 => ∃ a b c k, valS s3 tm1 = some a ∧ valS s3 tm2 = some b ∧ valS s3 tm3 = some c ∧ m3 = ob (rngD3 a b c) k ∧ ∀ ds, K [] (fun _ => True) id ds s3 (k ds))))) : RI F tmp s m (iRng3 (tCons ta (tCons tb (tCons tc tNil)))) K := fun σ H Q hh nf eo q =>
  h σ H _ hh nf eo fun tm1 s1 x H1 h2 h1 => h2 x σ H1 _ h1 nf eo fun tm2 s2 y H2 h4 h3 => h4 y σ H2 _ h3 nf eo fun tm3 s3 z H3 ⟨a, b, c, k, ea, eb, ec0, em, hk⟩ h5 => by
    obtain ⟨ds, ec, em'⟩ := ob_cases (by rw [← em]; exact nf)
    have h6 := h5
    obtain ⟨G, ω, h5⟩ := h5
    have r1 := h5.repC h5.tm.2.2.1 ea
    have r2 := h5.repC h5.tm.2.1 eb
    have r3 := h5.repC h5.tm.1 ec0
    cases a <;> cases b <;> cases c <;> try (cases ec; done)
    rename_i i j st
    simp only [rngD3] at ec
    split at ec
    · cases ec
      rename_i hb
      have r1' : x = .int i := r1
      have r2' : y = .int j := r2
      have r3' : z = .int st := r3
      subst r1' r2' r3'
      refine ⟨i, j, st, (Builtin.Range.rangeSize i j st).toNat, rfl, ⟨hb.1, hb.2.1, hb.2.2.1, by omega⟩, q [] _ id _ s3 _ H3 (by rw [em, em']; exact hk _) ?_ h6.pop.pop.pop⟩
      refine ⟨fun pre s σ H _ h => h.dropMid (ex := []) pre, by rw [sizeLine_eq]; simp; omega, fun s σ H i _ _ hi => by show i < _; simpa using hi, fun s σ H _ _ => by show _ ≤ _; simp, fun pre s σ H i d x H' _ hh hd hy => ?_⟩
      obtain ⟨rfl, rfl⟩ := hy
      rw [List.getElem?_map] at hd
      cases e : (List.range (Builtin.Range.rangeSize _ j st).toNat)[i]? with
      | none => rw [e] at hd; cases hd
      | some k =>
        rw [e] at hd
        cases hd
        have : i = k := by
          rw [List.getElem?_range (by have := (List.getElem?_eq_some_iff.mp e).1; simpa using this)] at e
          exact Option.some.inj e
        subst this
        exact holds_push (d := .int _) hh fun _ => rfl
    · cases ec
end
end VL

namespace VL
open PySem L2
variable [EC]
/-! list(range(..)), max of a list, isinstance of two builtin classes, displays of constants -/
def rgOk (a b : Int) : Bool := decide (-1000000000 ≤ a ∧ a ≤ 1000000000 ∧ -1000000000 ≤ b ∧ b ≤ 1000000000 ∧ (b - a) ≤ 16777216)
section
variable {R : Type} {F : Fc} {G H : Hp} {tmp : Tmp} {s : State} {m : Res R} {K : Rs R} {ta tb te : TE} {Kf : PySem.W.Frag}
theorem reps_rg {G : Hp} (i j : Int) : Reps G ((List.range (j - i).toNat).map fun k => .int (i + (k : Nat))) (rgV i j) := by
  unfold rgV
  exact Reps.map (fun k : Nat => D.int (i + (k : Nat))) (fun k : Nat => V.int (i + (k : Nat))) _ fun _ _ => rfl
theorem rd_listRg1 (h : RD F tmp s ta m (fun tm1 s1 m1 => ∃ a k, valS s1 tm1 = some a ∧ m1 = ob (rngD (.int 0) a) k ∧ ∀ c, K (.own (.l c)) s1 (k c))) : RD F tmp s (tLstRg (tRg1 ta)) m K := fun σ H Q hh nf eo q =>
  h σ H _ hh nf eo fun tm1 s1 x H1 ⟨a, k, ea, em, hk⟩ h1 => by
    obtain ⟨c, ec, em'⟩ := ob_cases (by rw [← em]; exact nf)
    obtain ⟨G, ω, h2⟩ := h1
    have ra := h2.repC h2.tm.1 ea
    cases a <;> try (cases ec; done)
    rename_i j
    simp only [rngD] at ec
    split at ec
    · cases ec
      rename_i hb
      have r' : x = .int j := ra
      subst r'
      refine ⟨j, rfl, ⟨by omega, by omega, by omega, by omega, by omega⟩, fun p np => q _ s1 _ _ (by rw [em, em']; exact hk _) (h2.pop.newL np (by rw [sizeLine_eq]; simp; omega) ?_)⟩
      exact reps_rg 0 j
    · cases ec
theorem rd_listRg2 (h : RD F tmp s ta m (fun tm1 s1 m1 => ∀ x, RD F ((x, tm1) :: tmp) s1 tb m1 (fun tm2 s2 m2 => ∃ a b k, valS s2 tm1 = some a ∧ valS s2 tm2 = some b ∧ m2 = ob (rngD a b) k ∧ ∀ c, K (.own (.l c)) s2 (k c)))) : RD F tmp s (tLstRg (tRg2 ta tb)) m K := fun σ H Q hh nf eo q =>
  h σ H _ hh nf eo fun tm1 s1 x H1 h2 h1 => h2 x σ H1 _ h1 nf eo fun tm2 s2 y H2 ⟨a, b, k, ea, eb, em, hk⟩ h3 => by
    obtain ⟨c, ec, em'⟩ := ob_cases (by rw [← em]; exact nf)
    obtain ⟨G, ω, h4⟩ := h3
    have ra := h4.repC h4.tm.2.1 ea
    have rb := h4.repC h4.tm.1 eb
    cases a <;> cases b <;> try (cases ec; done)
    rename_i i j
    simp only [rngD] at ec
    split at ec
    · cases ec
      rename_i hb
      have r1 : x = .int i := ra
      have r2 : y = .int j := rb
      subst r1 r2
      exact ⟨i, j, rfl, rfl, ⟨by omega, by omega, by omega, by omega, by omega⟩, fun p np => q _ s2 _ _ (by rw [em, em']; exact hk _) (h4.pop.pop.newL np (by rw [sizeLine_eq]; simp; omega) (reps_rg i j))⟩
    · cases ec
end
/-! max(xs) -/
omit [EC] in
def intsD : List D → Option (List Int)
  | [] => some []
  | .int i :: r => (intsD r).map (i :: ·)
  | _ :: _ => none
omit [EC] in
def maxI : List Int → Int
  | [] => 0
  | [i] => i
  | i :: r => max i (maxI r)
omit [EC] in
theorem maxI_in : ∀ {l : List Int}, l ≠ [] → maxI l ∈ l
  | [], h => absurd rfl h
  | [i], _ => List.mem_singleton.mpr rfl
  | i :: j :: r, _ => by
    have ih := maxI_in (l := j :: r) (by simp)
    show max i (maxI (j :: r)) ∈ _
    rcases Int.le_total i (maxI (j :: r)) with h | h
    · rw [Int.max_eq_right h]; exact List.mem_cons_of_mem _ ih
    · rw [Int.max_eq_left h]; exact List.mem_cons_self
omit [EC] in
theorem maxI_le : ∀ {l : List Int} {y : Int}, y ∈ l → y ≤ maxI l
  | [i], y, h => by rw [List.mem_singleton.mp h]; exact Int.le_refl _
  | i :: j :: r, y, h => by
    show y ≤ max i (maxI (j :: r))
    rcases List.mem_cons.mp h with h | h
    · rw [h]; exact Int.le_max_left _ _
    · exact Int.le_trans (maxI_le h) (Int.le_max_right _ _)
def maxQ : Option (List Int) → Option D
  | some (i :: r) => some (.int (maxI (i :: r)))
  | _ => none
def maxLD : D → Option D
  | .lst l => maxQ (intsD l)
  | _ => none
theorem intsD_reps {G : Hp} : ∀ {l : List D} {is : List Int} {vs : List V}, intsD l = some is → Reps G l vs → vs = is.map V.int
  | [], is, vs, e, h => by cases e; cases (show vs = [] from h); rfl
  | .int i :: r, is, vs, e, ⟨v, r0, e1, h, q⟩ => by
    simp only [intsD] at e
    cases e2 : intsD r with
    | none => rw [e2] at e; cases e
    | some js =>
      rw [e2] at e
      cases e
      subst e1
      rw [intsD_reps e2 q, show v = .int i from h]; rfl
  | .non :: r, is, vs, e, h => by cases e
  | .bl _ :: r, is, vs, e, h => by cases e
  | .str _ :: r, is, vs, e, h => by cases e
  | .tup _ :: r, is, vs, e, h => by cases e
  | .lst _ :: r, is, vs, e, h => by cases e
  | .dct _ _ :: r, is, vs, e, h => by cases e
  | .opq _ :: r, is, vs, e, h => by cases e
  | .exc _ _ :: r, is, vs, e, h => by cases e
  | .fd _ _ _ :: r, is, vs, e, h => by cases e
theorem cr_maxK {X : Cx} {Kf : PySem.W.Frag} (hK : X.K = Kf) (hc : X.calm = true) : CallR X (.builtin "max") (rMax Kf) := by subst hK; exact cr_max hc
theorem o_maxL {K : PySem.W.Frag} : Op1C (fun x H Q => rMax K [x] H Q) maxLD := fun G H x a c Q sm ra e q => by
  cases a <;> try (cases e; done)
  rename_i l
  simp only [maxLD] at e
  cases e2 : intsD l with
  | none => rw [e2] at e; cases e
  | some is =>
    rw [e2] at e
    cases is with
    | nil => cases e
    | cons i r =>
      cases e
      obtain ⟨p, vs, e1, g, z, rr⟩ := ra
      have hv := intsD_reps e2 rr
      subst hv
      refine ⟨p, i :: r, by rw [e1], .inl g, by simp, fun m hm hle => q _ ?_⟩
      have h1 := hle _ (maxI_in (l := i :: r) (by simp))
      have h2 := maxI_le hm
      show V.int m = V.int _
      rw [show m = maxI (i :: r) by omega]
/-! isinstance(x, (A, B)) -/
theorem call_isiTK {X : Cx} {Kf : PySem.W.Frag} (hK : X.K = Kf) : CallR X (.builtin "isinstance") (rIsiT Kf) := by subst hK; exact call_isiT
def isK2 (a : D) (k1 k2 : Kn) : Option Bool := match isK a k1, isK a k2 with
  | some b1, some b2 => some (b1 || b2)
  | _, _ => none
section
variable {R : Type} {F : Fc} {G H : Hp} {tmp : Tmp} {s : State} {m : Res R} {K : Rs R} {ta tb te : TE} {Kf : PySem.W.Frag}
theorem rd_isi2 (k1 k2 : Kn) (h : RD F tmp s ta m (fun tm1 s1 m1 => ∃ a k, valT s1 tm1 = some a ∧ m1 = ob (isK2 a k1 k2) k ∧ ∀ c, K (.own (.f (.bl c))) s1 (k c))) :
    RD F tmp s (tCB (rIsiT Kf) (tCons ta (tCons (tTup (tCons (tC (.ty k1.nm)) (tCons (tC (.ty k2.nm)) tNil))) tNil))) m K := fun σ H Q hh nf eo q =>
  h σ H _ hh nf eo fun tm1 s1 x H1 ⟨a, k, ea, em, hk⟩ h1 => by
    obtain ⟨c, ec, em'⟩ := ob_cases (by rw [← em]; exact nf)
    refine ⟨by rw [sizeLine_eq]; simp, fun p np => ?_⟩
    obtain ⟨G, ω, h2⟩ := h1
    have h3 := h2.newG (o := .tup [.ty k1.nm, .ty k2.nm]) np
    have r := h3.repT h3.tm.1 ea
    unfold isK2 at ec
    split at ec
    · rename_i b1 b2 e1 e2
      cases ec
      have no : isO a = false := by cases a <;> first | rfl | cases e1
      refine ⟨x, p, [.ty k1.nm, .ty k2.nm], .type (tyN a), [.type k1.nm, .type k2.nm], b1 || b2, rfl, upd_same, .cons (.ty _) (.cons (.ty _) .nil), ty_ok a x no r, ?_, q _ s1 _ _ (by rw [em, em']; exact hk _) (holds_bl ⟨_, ω, h3.pop⟩)⟩
      refine kitAny_cons (kit_ty (kitB_ok a k1 b1 e1)) (fun hb => kitAny_cons (kit_ty (kitB_ok a k2 b2 e2)) (fun hb2 => ?_) fun hb2 => ?_) fun hb => ?_
      · rw [hb, hb2]; exact kitAny_nil
      · rw [hb, hb2]; rfl
      · rw [hb]; rfl
    · cases ec
/-! a display of constant texts -/
omit [EC] in
theorem mergeK_new : ∀ (more kvs : List (L2.Key × V)), ((kvs ++ more).map (·.1)).Nodup → mergeK kvs more = kvs ++ more
  | [], kvs, _ => by simp [mergeK]
  | p :: r, kvs, nd => by
    show mergeK (putK kvs p.1 p.2) r = _
    have hn : valV kvs p.1 = none := by
      have := valV_any p.1 kvs
      cases e : valV kvs p.1 with
      | none => rfl
      | some v =>
        rw [e] at this
        obtain ⟨q, hq, hqe⟩ := List.any_eq_true.mp (this : kvs.any (fun kv => decide (kv.1 = p.1)) = true)
        rw [List.map_append, List.nodup_append] at nd
        exact absurd (of_decide_eq_true hqe) (nd.2.2 q.1 (List.mem_map.mpr ⟨q, hq, rfl⟩) p.1 (List.mem_map.mpr ⟨p, List.mem_cons_self, rfl⟩))
    rw [putK_new p.2 hn, mergeK_new r (kvs ++ [(p.1, p.2)]) (by simpa using nd)]
    simp
omit [EC] in
theorem tPairs_c {σ : L2.St} : ∀ (ps : List (V × V)) (H : Hp) (Q : List (V × V) → Hp → Prop), Q ps H → tPairs (ps.map fun p => (tC p.1, tC p.2)) σ H Q
  | [], _, _, q => q
  | p :: r, H, Q, q => tPairs_c r H (fun qs H' => Q (p :: qs) H') q
theorem repK_c {G : Hp} : ∀ ds : List (List Nat × List Nat), RepK G (ds.map fun p => (D.str p.1, D.str p.2)) (ds.map fun p => ((.inr (mkS p.1) : L2.Key), V.str (mkS p.2)))
  | [] => rfl
  | d :: r => ⟨.inr (mkS d.1), V.str (mkS d.2), _, rfl, by show D.str _ = D.str (mkS d.1).cps.toList; rw [mkS_cps], rfl, repK_c r⟩
theorem rd_dispC {trs : List (TE × TE)} (ds : List (List Nat × List Nat)) (he : trs = ds.map fun p => (tC (V.str (mkS p.1)), tC (V.str (mkS p.2)))) (hl : ds.length ≤ 15) (nd : (ds.map (·.1)).Nodup) (k : K (.own (.dc false (ds.map fun p => (D.str p.1, D.str p.2)))) s m) : RD F tmp s (tDisp trs) m K := fun σ H Q hh nf eo q => fun p np => by
  subst he
  have hn : Holds F ((.ref p, .own (.dc false [])) :: tmp) s σ (upd H p (.dK [])) := by
    obtain ⟨G, ω, h⟩ := hh
    exact ⟨G, _, h.newO np ⟨p, [], rfl, by simp, upd_same, rfl⟩⟩
  have e : (ds.map fun p => (tC (V.str (mkS p.1)), tC (V.str (mkS p.2)))) = ((ds.map fun p => (V.str (mkS p.1), V.str (mkS p.2))).map fun p => (tC p.1, tC p.2)) := by rw [List.map_map]; rfl
  rw [e]
  refine tPairs_c _ _ _ ⟨upd_same, ds.map fun p => (.inr (mkS p.1), V.str (mkS p.2)), by rw [List.map_map]; rfl, by rw [List.length_map]; exact hl, ?_⟩
  have hm : mergeK [] (ds.map fun p => ((.inr (mkS p.1) : L2.Key), V.str (mkS p.2))) = (ds.map fun p => ((.inr (mkS p.1) : L2.Key), V.str (mkS p.2))) := by
    rw [mergeK_new _ [] ?_]; · rfl
    rw [List.nil_append, List.map_map, List.nodup_iff_pairwise_ne, List.pairwise_map]
    rw [List.nodup_iff_pairwise_ne, List.pairwise_map] at nd
    exact nd.imp fun h e => h (mkS_inj (Sum.inr.inj e))
  rw [hm]
  obtain ⟨G, ω, h4⟩ := hn
  obtain ⟨a, kvs, e3, hw, ha, hr⟩ := h4.tm.1
  cases e3
  refine q _ s _ _ k ⟨G, ω, Hd.wr (tmp' := (.ref p, .own (.dc false (ds.map fun p => (D.str p.1, D.str p.2)))) :: tmp) h4.pop hw _ rfl (fun j u e => ?_) ⟨⟨p, _, rfl, hw, upd_same, ?_⟩, Tms.wrO hw tmp (fun j hj => ?_) h4.tm.2⟩⟩
  · obtain ⟨v', b1, b2⟩ := h4.sl j u e
    exact ⟨v', b1, Own.wrO hw (by simp [pre]) b2⟩
  · exact repK_c ds
  · have : ¬ j = tmp.length := by omega
    simp [pre, this]
end
end VL

namespace VL
open PySem L2 PySem.W PyProof.Rows
variable [EC]
/-! sorted(d.items()), dict(pairs) -/
def rItemsDK : V → List V → Hp → VK → Prop := fun x xs H Q => ∃ (a : Addr) (kvs : List (Key × V)), x = .ref a ∧ xs = [] ∧ H a = some (.dK kvs) ∧ ∀ p, H p = none → Q (.ref p) (upd H p (L2.DX.itemsO p a))
theorem mt_itemsDK {X : Cx} : MtR X "dict.items" rItemsDK := by
  intro pins s σ H x xs v us Q I rx rxs h
  obtain ⟨a, kvs, rfl, rfl, ha, q⟩ := h
  cases rx
  cases rxs
  obtain ⟨z, hd, vs, kv, hdo⟩ := dk_of I.hok ha
  refine call_meetsIn PySem.F.slot_dict_items hdo.typeIs PySem.F.entry_dict_items (PySem.F.args_dict_items_1 _) (meets_dict_items (mixKind X.prog X.w) a hd) ⟨⟨vs, hdo⟩, ?_⟩
  have hf : H s.heap.objs.size = none := I.hok.fresh (Nat.le_refl _)
  exact ⟨.ref s.heap.objs.size, upd H s.heap.objs.size (L2.DX.itemsO s.heap.objs.size a), I.laid (t' := s.toks) (fun b u e => Heap.get?_push_of_some _ e) (Nat.le_refl _) (L2.DX.itemsO_ok (Heap.get?_push_size _ rfl)), rfl, q _ hf⟩
theorem reps_pair {G' : Hp} : ∀ {ts : List Addr} {kvs : List (Key × V)} {l : List (D × D)}, Paired (fun (t : Addr) (p : Key × V) => G' t = some (.tup [kV p.1, p.2])) ts kvs → RepK G' l kvs → Reps G' (itemsD l) (ts.map V.ref)
  | _, _, [], .nil, _ => rfl
  | _, _, [], .cons _ _, h => by cases (show _ = [] from h)
  | _, _, (k, d) :: l, .nil, h => by
    obtain ⟨_, _, _, e, _⟩ := h
    cases e
  | t :: ts, p :: kvs, (k, d) :: l, .cons h1 h2, ⟨kk, v, r, e, ek, hr, q⟩ => by
    cases e
    subst ek
    exact ⟨.ref t, ts.map V.ref, rfl, ⟨t, _, rfl, h1, by rw [sizeLine_eq]; show 2 ≤ 16777216; omega, ⟨kV kk, [v], rfl, rep_kD kk, v, [], rfl, hr, rfl⟩⟩, reps_pair h2 q⟩
theorem putT_same {G : Hp} : ∀ (ts : List Addr) (kvs : List (Key × V)), (∀ t ∈ ts, G t = none) → ts.Nodup → Same G (LiI.putT G ts kvs) := fun ts kvs h nd a o e => by
  rw [LiI.putT_off ts kvs G (fun hm => by rw [h a hm] at e; cases e)]; exact e
theorem Hd.putT {F : Fc} {ω : Addr → Option Lab} {tmp : Tmp} {s : State} {σ : L2.St} : ∀ (ts : List Addr) (kvs : List (Key × V)) {G H : Hp}, Hd F G ω tmp s σ H → (∀ t ∈ ts, H t = none) → ts.Nodup → Hd F (LiI.putT G ts kvs) ω tmp s σ (LiI.putT H ts kvs)
  | [], _, _, _, h, _, _ => h
  | _ :: _, [], _, _, h, _, _ => h
  | t :: ts, p :: kvs, G, H, h, hf, nd => by
    rw [List.nodup_cons] at nd
    refine Hd.putT ts kvs (h.newG (hf t List.mem_cons_self)) (fun u hu => ?_) nd.2
    rw [upd_ne (show u ≠ t from fun z => nd.1 (by rw [← z]; exact hu))]
    exact hf u (List.mem_cons_of_mem _ hu)
def intV : D → Bool | .int _ => true | _ => false
def sortItD (l : List (D × D)) : Option (List D) := if (sortOk (itemsD l) && (l.all fun kv => intV kv.2) && !l.isEmpty) = true then some ((itemsD l).mergeSort leD') else none
def rSortItD : List V → Hp → VK → Prop := fun vs H Q => ∃ (p a : Addr) (kvs : List (Key × V)) (l : List (D × D)) (G : Hp), vs = [.ref p] ∧ H p = some (L2.DX.itemsO p a) ∧ H a = some (.dK kvs) ∧ Same G H ∧ RepK G l kvs ∧ sortOk (itemsD l) = true ∧ (l.all fun kv => intV kv.2) = true ∧ l.isEmpty = false ∧
  ∀ (ts : List Addr) (b : Addr) (ys : List V), ts.Nodup → (∀ t ∈ ts, H t = none) → b ∉ ts → H b = none → Reps (LiI.putT G ts kvs) ((itemsD l).mergeSort leD') ys → Q (.ref b) (upd (LiI.putT H ts kvs) b (.lst ys))
theorem each_ix {α β : Type} {R : α → β → Prop} : ∀ {us : List α} {bs : List β}, us.length = bs.length → (∀ (j : Nat) (v : α) (b : β), us[j]? = some v → bs[j]? = some b → R v b) → EachIs R us bs
  | [], [], _, _ => .nil
  | [], _ :: _, h, _ => by cases h
  | _ :: _, [], h, _ => by cases h
  | u :: us, b :: bs, h, q => .cons (q 0 u b rfl rfl) (each_ix (Nat.succ.inj h) fun j v c e1 e2 => q (j + 1) v c e1 e2)
section
variable {X : Cx} {pins : List (Addr × Obj)} {σ : List (Option V)} {H : Hp} {s : Shared}
theorem tuples_laid {h' : Heap} {tk : Nat} {kvs : List (Key × V)} {vs : List (Key × Value)} {as : List Addr} (I : Inv X pins σ H s) (kv : KV kvs vs)
    (hk : ∀ b o, s.heap.get? b = some o → h'.get? b = some o) (hl : as.length = vs.length) (hG : PySem.W.KdxG (mixKind X.prog X.w) vs s.heap.objs.size h' as) :
    (∀ t ∈ as, H t = none) ∧ as.Nodup ∧ Inv X pins σ (LiI.putT H as kvs) { s with heap := h', toks := tk } := by
  have lk : kvs.length = vs.length := Paired.length kv
  have nd : as.Nodup := List.Pairwise.imp (fun {a b} (h : a < b) => Nat.ne_of_lt h) hG.rise
  have new : ∀ t ∈ as, H t = none := fun t ht => I.hok.fresh (Nat.le_of_lt (hG.above t ht))
  have atP := LiI.putT_at as kvs H (by omega) nd
  have off : ∀ b, b ∉ as → LiI.putT H as kvs b = H b := fun b h1 => LiI.putT_off as kvs _ h1
  have low : ∀ b o, s.heap.get? b = some o → b ∉ as := fun b o e z => absurd (Heap.lt_size e) (Nat.not_lt.mpr (Nat.le_of_lt (hG.above b z)))
  have kp : ∀ b u, H b = some u → (LiI.putT H as kvs) b = some u := fun b u e => by
    rw [off b (fun z => by rw [new b z] at e; cases e)]
    exact e
  refine ⟨new, nd, ?_⟩
  refine I.call' (ch := []) rfl ⟨fun b o q _ _ _ => hk b o q, fun b o q _ _ _ => ⟨o.slots, hk b o q⟩, fun b o q n _ => ?_, fun b o q _ => ⟨o, hk b o q⟩, fun b xs q => kp b _ q, fun b o u q => kp b _ q, fun b ps q => ⟨#[], by rw [kp b _ q]; simp⟩⟩ (fun b u q => ?_) I.bare fun b z => by simp at z
  · rw [off b (low b o q)]
    exact n
  · by_cases hb : b ∈ as
    · obtain ⟨j, pk, e1, e2, e3⟩ := LiI.paired_ix atP hb
      rw [e3] at q
      cases q
      obtain ⟨key, k, x, f1, f2, f3⟩ := hG.pairs j b e1
      obtain ⟨qv, g1, g2, g3⟩ := LiI.paired_get kv e2
      rw [f1] at g1
      cases g1
      have rk : RelV (kV pk.1) key := by
        rw [g2]
        exact relV_key (show keyIs k key = true from f2)
      exact ⟨by show 2 ≤ sizeLine; decide, [key, x], .cons rk (.cons g3 .nil), ⟨_, f3, rfl, _, rfl⟩⟩
    · rw [off b hb] at q
      exact (I.hok b u q).stay (fun d v _ y => hk d v y) (fun d y => kp d _ y) fun d xs y => kp d _ y
theorem repK_at' {G : Hp} {l : List (D × D)} {kvs : List (Key × V)} {i : Nat} {p : D × D} (h : RepK G l kvs) (e : l[i]? = some p) : ∃ k v, kvs[i]? = some (k, v) ∧ p.1 = kD k ∧ Rep G p.2 v := repK_at h e
theorem cr_sortedItD (hcalm : X.calm = true) (hu : X.A.units + 64 < cLine) : CallR X (.builtin "sorted") rSortItD := by
  intro pins s σ H xs us Q I r q
  obtain ⟨p, a, kvs, l, G, ex, hp, ha, sm, hr, hok, hint, hne, q⟩ := q
  subst ex
  obtain ⟨u, eu, rx⟩ := vals1 r
  subst eu
  cases rx
  have view : s.heap.IsItemsView p a := (show ObjOk X.prog X.w H s.heap p (L2.DX.itemsO p a) from I.hok p _ hp).1
  obtain ⟨z, lo, vs, rel, dd⟩ := dk_of I.hok ha
  obtain ⟨ep, hat⟩ := dd.dictAt
  simp only [sortOk, Bool.and_eq_true, decide_eq_true_eq, Bool.or_eq_true] at hok
  obtain ⟨⟨⟨⟨p1, p2⟩, p3⟩, p4⟩, p5⟩ := hok
  have lkv : l.length = kvs.length := repK_len hr
  have hl : vs.length = l.length := by rw [lkv]; exact (Paired.length rel).symm
  have lit : (itemsD l).length = l.length := by simp [itemsD]
  refine Calls.call_function_entry PyProof.Rows.kind_sorted PyProof.Rows.plain_sorted PyProof.Rows.entry_sorted (PyProof.Rows.args_sorted1 _) ?_
  unfold Builtin.«sorted»
  refine wpAny_bind (m := checkCount "sorted" 1 1 _) (wpAny_pure ?_)
  refine wpAny_bind (PySem.W.kdx_collect (A := X.A.in1) (knd := mixKind X.prog X.w) (kvs := vs) (ep := ep) (I.ok.hd hcalm) view hat (by rw [sizeLine_eq]; omega) fun h' tk as hk hal hG => ?_)
  obtain ⟨new, nd, J⟩ := tuples_laid (tk := tk) I rel hk hal hG
  have lak : as.length = kvs.length := by omega
  have sG : Same G (LiI.putT G as kvs) := putT_same as kvs (fun t ht => by
    cases e : G t with
    | none => rfl
    | some o => have := sm t o e; rw [new t ht] at this; cases this) nd
  have hps := reps_pair (LiI.putT_at as kvs G lak nd) (RepK.mono sG _ _ hr)
  have ael : (as.map Value.ref).length = (itemsD l).length := by rw [List.length_map, lit]; omega
  refine wpAny_bind (wpAny_newList ?_ (by rw [ael, lit, sizeLine_eq]; rw [lit] at p5; exact p5))
  have hoL : (h'.push (seqObj "list" (as.map Value.ref).toArray 0)).get? h'.objs.size = some (seqObj "list" (as.map Value.ref).toArray 0) := Heap.get?_push_size _ rfl
  show wpAny _ _ _ _ _ { s with heap := h'.push (seqObj "list" (as.map Value.ref).toArray 0), toks := tk }
  have e1 : EachIs (RelD (LiI.putT G as kvs)) (as.map Value.ref) (itemsD l) := each_of _ _ _ hps (LiI.vals_refs as)
  have e2 : EachIs (fun v b => ∃ ad, Reads (h'.push (seqObj "list" (as.map Value.ref).toArray 0)) v (py b) ad ∧ h'.objs.size ∉ ad) (as.map Value.ref) (itemsD l) := by
    refine each_ix ael fun j v b hv hb => ?_
    rw [List.getElem?_map] at hv
    cases ej : as[j]? with
    | none => rw [ej] at hv; cases hv
    | some t =>
      rw [ej] at hv; cases hv
      obtain ⟨key, k, x, f1, f2, f3⟩ := hG.pairs j t ej
      rw [itemsD, List.getElem?_map] at hb
      cases el : l[j]? with
      | none => rw [el] at hb; cases hb
      | some pr =>
        rw [el] at hb; cases hb
        obtain ⟨k', v', b1, b2, b3⟩ := repK_at hr el
        obtain ⟨qv, g1, g2, g3⟩ := LiI.paired_get rel b1
        rw [f1] at g1
        cases g1
        have rk : RelV (kV k') key := by
          rw [show k' = k from g2]
          exact relV_key (show keyIs k key = true from f2)
        have rx' : RelV v' x := g3
        have hi : intV pr.2 = true := List.all_eq_true.mp hint pr (List.mem_of_getElem? el)
        obtain ⟨pk, pv⟩ := pr
        cases pv <;> try (cases hi; done)
        rename_i n
        have b2' : pk = kD k' := b2
        subst b2'
        cases (show v' = .int n from b3)
        obtain ⟨tt, rfl⟩ := rx'
        refine ⟨[], ?_, by simp⟩
        have ho := Heap.get?_push_of_some (seqObj "list" (as.map Value.ref).toArray 0) f3
        exact .tuple ho rfl rfl (by
          show ReadsAll _ [key, Value.int n tt] (pys [kD k', .int n]) []
          have r1 := key_reads (h'.push (seqObj "list" (as.map Value.ref).toArray 0)) k' rk
          have r2 : Reads (h'.push (seqObj "list" (as.map Value.ref).toArray 0)) (Value.int n tt) (py (.int n)) [] := .int _ _
          simpa [pys] using ReadsAll.cons r1 (ReadsAll.cons r2 .nil))
  have halk : AllAlike ((itemsD l).map py) := by
    intro d hd d' hd'
    obtain ⟨b, hb, rfl⟩ := List.mem_map.mp hd
    obtain ⟨b', hb', rfl⟩ := List.mem_map.mp hd'
    exact List.all_eq_true.mp (List.all_eq_true.mp p3 b hb) b' hb'
  have hk2 : Sortable ((itemsD l).map py) := by
    refine .inl fun d hd => ?_
    obtain ⟨b, hb, rfl⟩ := List.mem_map.mp hd
    obtain ⟨pr, _, rfl⟩ := List.mem_map.mp hb
    exact ⟨_, _, rfl⟩
  refine wpAny_bind (wpAny_holding (list_sort_data (R := RelD (LiI.putT G as kvs)) (s := { s with heap := h'.push (seqObj "list" (as.map Value.ref).toArray 0), toks := tk }) hoL e1 e2 halk hk2 (by rw [sizeLine_eq]; exact p5) (fun b hb => ?_) fun out ho eo => ?_))
  · have h1 := py_depth b (plains_mem p1 hb)
    have h2 := deps_mem hb
    show X.A.in1.units + 1 + (py b).depth < cLine
    rw [in1_units]
    omega
  · obtain ⟨e', he'⟩ := PyProof.Rows.sortedHeap_at (vs := as.map Value.ref) (out := out.toArray) hoL
    obtain ⟨ys, v1, r1⟩ := of_each eo
    have hlen : ys.length ≤ sizeLine := by rw [v1.length, ho, sizeLine_eq]; omega
    have hsz : s.heap.objs.size ≤ h'.objs.size := by
      cases as with
      | nil =>
        cases l with
        | nil => cases hne
        | cons x r => rw [← lkv] at lak; cases lak
      | cons t ts => exact Nat.le_of_lt (Nat.lt_trans (hG.above t List.mem_cons_self) (hG.there List.mem_cons_self))
    have bn : h'.objs.size ∉ as := fun hm => Nat.lt_irrefl _ (hG.there hm)
    refine wpAny_pure ⟨_, rfl, .ref h'.objs.size, upd (LiI.putT H as kvs) h'.objs.size (.lst ys), J.laid (t' := tk) (fun b u e => ?_) (Nat.le_refl _)
      (show ObjOk X.prog X.w _ _ _ (.lst ys) from ⟨hlen, out, e', v1, he'⟩), rfl, q as _ ys nd new bn (I.hok.fresh hsz) r1⟩
    have hb : b < h'.objs.size := Heap.lt_size e
    rw [PyProof.Rows.sortedHeap_old (Nat.ne_of_lt hb) (by rw [size_push']; exact Nat.lt_succ_of_lt hb)]
    exact Heap.get?_push_of_some _ e
end
section
variable {R : Type} {F : Fc} {tmp : Tmp} {s : State} {m : Res R} {td ta : TE} {Kf : PySem.W.Frag}
theorem rd_sortIt {K : TM → State → Res R → Prop} (h : RD F tmp s td m (fun tm s1 m1 => ∃ l k, tm = .own (.dc false l) ∧ m1 = ob (sortItD l) k ∧ ∀ c, K (.own (.l c)) s1 (k c))) : RD F tmp s (tCB rSortItD (tCons (tBM0 Kf "dict" rItemsDK td) tNil)) m K := fun σ H Q hh nf eo q =>
  h σ H _ hh nf eo fun tm s1 x H1 ⟨l, k, et, em, hk⟩ h1 => by
    subst et
    obtain ⟨c, ec, em'⟩ := ob_cases (by rw [← em]; exact nf)
    obtain ⟨G, ω, h2⟩ := h1
    obtain ⟨a, kvs, e, w, ha, r⟩ := h2.tm.1
    subst e
    refine ⟨.inr (.inr (.inl ⟨rfl, .inl ⟨kvs, ha⟩⟩)), a, kvs, rfl, rfl, ha, fun p np => ?_⟩
    unfold sortItD at ec
    split at ec
    case isFalse => cases ec
    rename_i hc
    cases ec
    simp only [Bool.and_eq_true, Bool.not_eq_true'] at hc
    have h3 := (h2.pop).newG (o := L2.DX.itemsO p a) np
    have hap : a ≠ p := fun z => by rw [z, np] at ha; cases ha
    refine ⟨p, a, kvs, l, upd G p (L2.DX.itemsO p a), rfl, upd_same, by rw [upd_ne hap]; exact ha, h3.gH, RepK.mono (fun b u e => upd_keep (h2.gfree np) e) _ _ r, hc.1.1, hc.1.2, hc.2, fun ts b ys nd hf hb nb rs => ?_⟩
    have h4 := Hd.putT ts kvs h3 hf nd
    have z : ((itemsD l).mergeSort leD').length ≤ sizeLine := by
      have := hc.1.1
      simp only [sortOk, Bool.and_eq_true, decide_eq_true_eq] at this
      rw [List.length_mergeSort, sizeLine_eq]; exact this.2
    refine q _ s1 _ _ (by rw [em, em']; exact hk _) (h4.newL ?_ z rs)
    rw [LiI.putT_off ts kvs _ hb]; exact nb
/-! dict(pairs) -/
def keyI : D → Option Key | .int i => some (.inl i) | .str t => some (.inr (mkS t)) | _ => none
theorem keyI_ok {d : D} {k : Key} (h : keyI d = some k) : d = kD k := by
  cases d <;> simp [keyI] at h
  · subst h; rfl
  · subst h; simp [kD, mkS]
def pairL : List D → List (D × D) → Option (List (D × D))
  | [], acc => some acc
  | .tup [k, v] :: r, acc => if (keyI k).isSome = true then pairL r (storeD acc k v) else none
  | _ :: _, _ => none
def dictPD : D → Option (List (D × D)) | .lst ds => pairL ds [] | _ => none
def rDictP (Kf : PySem.W.Frag) : List V → Hp → VK → Prop := fun xs H Q => ∃ (a : Addr) (ps : List Addr) (kvs : List (Key × V)), xs = [.ref a] ∧ SqL Kf H a (ps.map V.ref) ∧ Paired (fun p kv => SqT Kf H p [kV kv.1, kv.2]) ps kvs ∧ ∀ p, H p = none → Q (.ref p) (upd H p (.dK (mergeK [] kvs)))
theorem call_dictPK {X : Cx} (hK : X.K = Kf) (hc : X.calm = true) : CallR X (.type "dict") (rDictP Kf) := by subst hK; exact call_dictP hc
theorem pairs_rep {G H : Hp} (sm : Same G H) : ∀ (ds : List D) (vs : List V) (acc c : List (D × D)) (kvs : List (Key × V)), Reps G ds vs → RepK G acc kvs → pairL ds acc = some c → ∃ (ps : List Addr) (more : List (Key × V)), vs = ps.map V.ref ∧ Paired (fun p kv => SqT Kf H p [kV kv.1, kv.2]) ps more ∧ RepK G c (mergeK kvs more)
  | [], vs, acc, c, kvs, r, ra, e => by
    cases (show vs = [] from r); cases e
    exact ⟨[], [], rfl, .nil, ra⟩
  | .tup [k, x] :: ds, _, acc, c, kvs, ⟨v, r, ev, hv, hr⟩, ra, e => by
    subst ev
    rw [pairL] at e
    split at e
    · rename_i hk
      obtain ⟨kk, ek⟩ := Option.isSome_iff_exists.mp hk
      have ek' := keyI_ok ek
      obtain ⟨a, us, ea, hg, z, ru⟩ := hv
      obtain ⟨u1, us1, eu1, r1, u2, us2, eu2, r2, e3⟩ := ru
      cases (show us2 = [] from e3)
      subst eu2 eu1
      have e1 : u1 = kV kk := by
        subst ek'
        cases kk with
        | inl i => exact r1
        | inr t =>
          have : u1 = V.str (mkS t.cps.toList) := r1
          rw [this, mkS_of]; rfl
      subst e1
      obtain ⟨ps, more, e4, hp, hm⟩ := pairs_rep sm ds r (storeD acc k x) c (putK kvs kk u2) hr (repK_store (kk := kk) (d := k) (c := x) ek' r2 ra) e
      exact ⟨a :: ps, (kk, u2) :: more, by rw [show v = .ref a from ea, e4]; rfl, .cons (.inl (.inl (sm _ _ hg))) hp, hm⟩
    · cases e
  | .tup [] :: _, _, _, _, _, _, _, e => by simp [pairL] at e
  | .tup [_] :: _, _, _, _, _, _, _, e => by simp [pairL] at e
  | .tup (_ :: _ :: _ :: _) :: _, _, _, _, _, _, _, e => by simp [pairL] at e
  | .non :: _, _, _, _, _, _, _, e => by simp [pairL] at e
  | .bl _ :: _, _, _, _, _, _, _, e => by simp [pairL] at e
  | .int _ :: _, _, _, _, _, _, _, e => by simp [pairL] at e
  | .str _ :: _, _, _, _, _, _, _, e => by simp [pairL] at e
  | .lst _ :: _, _, _, _, _, _, _, e => by simp [pairL] at e
  | .dct _ _ :: _, _, _, _, _, _, _, e => by simp [pairL] at e
  | .opq _ :: _, _, _, _, _, _, _, e => by simp [pairL] at e
  | .exc _ _ :: _, _, _, _, _, _, _, e => by simp [pairL] at e
  | .fd _ _ _ :: _, _, _, _, _, _, _, e => by simp [pairL] at e
theorem rd_dictP {K : TM → State → Res R → Prop} (h : RD F tmp s ta m (fun tm1 s1 m1 => ∃ a k, valS s1 tm1 = some a ∧ m1 = ob (dictPD a) k ∧ ∀ c, K (.own (.dc false c)) s1 (k c))) : RD F tmp s (tCB (rDictP Kf) (tCons ta tNil)) m K := fun σ H Q hh nf eo q =>
  h σ H _ hh nf eo fun tm1 s1 x H1 ⟨a, k, ea, em, hk⟩ h1 => by
    obtain ⟨c, ec, em'⟩ := ob_cases (by rw [← em]; exact nf)
    obtain ⟨G, ω, h3⟩ := h1
    have ra := h3.repC h3.tm.1 ea
    cases a <;> try (cases ec; done)
    rename_i ds
    obtain ⟨p, vs, e1, rd, z, r⟩ := ra
    obtain ⟨ps, more, e4, hp, hm⟩ := pairs_rep (Kf := Kf) h3.gH ds vs [] c [] r rfl ec
    refine ⟨p, ps, more, by rw [show x = .ref p from e1], .inl (by rw [← e4]; exact rd), hp, fun p2 np => ?_⟩
    exact q (.own (.dc false c)) s1 _ _ (by rw [em, em']; exact hk _) ⟨G, _, h3.pop.newO np ⟨p2, _, rfl, by simp, upd_same, hm⟩⟩
end
/-! a told list, many times -/
def rRepR : R2 := fun x y H Q => ∃ l k xs, x = .ref l ∧ y = .int k ∧ Rd H l (.lst xs) ∧ -1000000 ≤ k ∧ k ≤ 1000000 ∧ xs.length * k.toNat ≤ sizeLine ∧ ∀ p, H p = none → Q (.ref p) (upd H p (.lst (List.replicate k.toNat xs).flatten))
theorem fold_rep (its : List Value) (m : Nat) : List.foldl (fun x1 x2 => x1 ++ x2) #[] (List.replicate (if its.toArray.isEmpty = true then 0 else m) its.toArray) = (List.replicate m its).flatten.toArray := by
  have key : ∀ (n : Nat) (a : Array Value), List.foldl (fun x1 x2 => x1 ++ x2) a (List.replicate n its.toArray) = a ++ (List.replicate n its).flatten.toArray := by
    intro n
    induction n with
    | zero => intro a; simp
    | succ n ih => intro a; rw [List.replicate_succ, List.foldl_cons, ih]; simp [List.replicate_succ]
  cases its with
  | nil => simp
  | cons b r => rw [if_neg (by simp), key]; simp
theorem op_repR {X : Cx} : OpR X (binaryOp .Mult) rRepR := by
  rintro pins s σ H x y v u Q I rx ry ⟨l, k, xs, rfl, rfl, hH, h1, h2, hz, q⟩
  cases rx
  obtain ⟨t, rfl⟩ := ry
  obtain ⟨z, its, n, r, e⟩ := hH.ok I.hok
  have hlen : its.toArray.size * k.toNat ≤ sizeLine := by rw [List.size_toArray, ← r.length]; exact hz
  have hcap : ¬ its.toArray.size * k.toNat > (2 ^ 63 - 1) / 8 := by
    have : (sizeLine : Nat) ≤ (2 ^ 63 - 1) / 8 := by decide
    omega
  have hfit : ¬ (!Builtin.List.listFitsIndex k) = true := by rw [fitsIndex_both (by omega) (by omega)]; decide
  have hlong : ¬ Builtin.List.listTooLong (its.toArray.size * k.toNat) = true := by rw [notLongL hlen]; decide
  refine wpAny_binaryOp_repeat_ref (T := "list") (U := "int") (by decide) ⟨_, e, rfl⟩ (fun s' => typeIs_int s' k t) noFill_list_mul F.fills_int_mul F.slot_int_rmul repeat_list F.slot_int_index.lookup
    (call_meets F.slot_int_rmul (typeIs_int s k t) F.entry_int_rmul (F.args_int_rmul_2 _ _) (int___rmul___int_list k t l its.toArray n)
      ⟨e, rfl, ⟨_, e, rfl⟩, call_meets F.slot_list_mul ⟨_, e, rfl⟩ F.entry_list_mul (F.args_list_mul_2 _ _) (AutoListH.list___mul___list_int_3 l its.toArray n k t hfit hcap hlong) ⟨e, ?_⟩⟩)
  rw [fold_rep]
  exact ⟨.ref _, _, I.lnew (t' := s.toks) (r.rep k.toNat) (by rw [PyProof.Rows.lm_len_rep_flat, Nat.mul_comm]; exact hz), rfl, q _ I.fresh⟩
def repLD (a b : D) : Option (List D) := match a, b with
  | .lst ds, .int k => if k ≤ 1000000 ∧ -1000000 ≤ k ∧ ds.length * k.toNat ≤ 16777216 then some (List.replicate k.toNat ds).flatten else none
  | _, _ => none
theorem o_repR : Op2L rRepR repLD := fun G H x y a b c Q sm ra rb e => by
  cases a <;> cases b <;> try (cases e; done)
  rename_i ds k
  simp only [repLD] at e
  split at e
  · rename_i hz
    cases e
    obtain ⟨p, vs, e1, g1, z1, r1⟩ := ra
    have ey : y = .int k := rb
    refine ⟨?_, fun q => ⟨p, k, vs, e1, ey, g1, hz.2.1, hz.1, by rw [← r1.length, sizeLine_eq]; exact hz.2.2, fun p3 np => q p3 _ np (r1.rep _)⟩⟩
    rw [sizeLine_eq, List.length_flatten, List.map_replicate, List.sum_replicate_nat, Nat.mul_comm]; exact hz.2.2
  · cases e
end VL

namespace VL
open PySem L2 PySem.Spec PyProof.Rows
/-! None or a list of its own; str.strip(signs) -/
def optT : D → T | .lst ds => .l ds | d => .f d
def onO {R : Type} (r : D) (a : List D → Res R) (b : Res R) : Res R := match r with | .lst ds => a ds | _ => b
theorem optT_er (d : D) : (optT d).er = d := by cases d <;> rfl
def stripD : D → D → Option D
  | .str a, .str b => if a.length ≤ 16777216 then some (.str (Txt.stripChars (mkS a) (mkS b)).cps.toList) else none
  | _, _ => none
variable [EC]
section
variable {R : Type} {F : Fc} {tmp : Tmp} {s : State} {m : Res R} {N : Rn R} {Rt : Rr R} {K : Rs R}
theorem rd_never {te : TE} (e : m = .fail) : RD F tmp s te m K := fun σ H Q hh nf => absurd e nf
theorem rd_fzO {te : TE} (h : RD F tmp s te m (fun tm s1 m1 => ∃ d, tm = .own (optT d) ∧ K (.own (.f d)) s1 m1)) : RD F tmp s te m K := rd_fz fun σ H Q hh nf eo q =>
  h σ H Q hh nf eo fun tm s' v H' ⟨d, e, hk⟩ h1 => q tm s' v H' ⟨optT d, e, by rw [optT_er]; exact hk⟩ h1
theorem rs_onO {i : Nat} {r : D} {a : List D → Res R} {b : Res R} {t : TS} (hi : s[i]? = some (some (optT r))) (em : m = onO r a b)
    (ha : ∀ ds, RS F tmp (s.set i (some (.l ds))) (a ds) t N Rt) (hb : RS F tmp (s.set i (some (.f r))) b t N Rt) : RS F tmp s m t N Rt := by
  have key : ∀ u : T, s[i]? = some (some u) → s.set i (some u) = s := fun u h => by
    obtain ⟨hl, e⟩ := List.getElem?_eq_some_iff.mp h
    rw [← e]
    exact List.set_getElem_self hl
  subst em
  by_cases hr : ∃ ds, r = .lst ds
  · obtain ⟨ds, rfl⟩ := hr
    have := ha ds
    rw [key (.l ds) hi] at this
    exact this
  · have e1 : optT r = .f r := by cases r <;> first | rfl | exact absurd ⟨_, rfl⟩ hr
    have e2 : onO r a b = b := by cases r <;> first | rfl | exact absurd ⟨_, rfl⟩ hr
    rw [e1] at hi
    rw [key _ hi] at hb
    rw [e2]; exact hb
end
section
variable {R : Type} {F : Fc} {tmp : Tmp} {s : State} {m : Res R} {to te : TE} {Kf : PySem.W.Frag} {K : Rs R}
theorem rd_strip (h : RD F tmp s to m (fun tm1 s1 m1 => ∃ d k, valS s1 tm1 = some d ∧ m1 = ob (asStr d) k ∧ ∀ l0 x, RD F ((x, tm1) :: tmp) s1 te (k l0) (fun tm2 s2 m2 => ∃ a b k, valS s2 tm1 = some a ∧ valS s2 tm2 = some b ∧ m2 = ob (stripD a b) k ∧ ∀ c, K (.own (.f c)) s2 (k c)))) :
    RD F tmp s (tBM Kf "str" (fun x xs H Q => ∃ a b, x = .str a ∧ xs = [.str b] ∧ a.length ≤ sizeLine ∧ Q (.str (Txt.stripChars a b)) H) to (tCons te tNil)) m K := fun σ H Q hh nf eo q =>
  h σ H _ hh nf eo fun tm1 s1 x H1 ⟨d, k0, e0, em0, h2⟩ h1 => by
    obtain ⟨l0, ed, em0'⟩ := ob_cases (by rw [← em0]; exact nf)
    rw [asStr_eq ed] at e0
    have ht : tyV Kf "str" x H1 := by
      obtain ⟨G, ω, h3⟩ := h1
      rw [show x = _ from h3.repC h3.tm.1 e0]
      rfl
    have h2' := h2 l0 x
    rw [← em0', ← em0] at h2'
    refine ⟨ht, h2' σ H1 _ h1 nf eo fun tm2 s2 y H2 ⟨a, b, k, ea, eb, em, hk⟩ h3 => ?_⟩
    obtain ⟨c, ec, em'⟩ := ob_cases (by rw [← em]; exact nf)
    have h5 := h3
    obtain ⟨G, ω, h4⟩ := h3
    have ra := h4.repC h4.tm.2.1 ea
    have rb := h4.repC h4.tm.1 eb
    cases a <;> try (cases ec; done)
    cases b <;> try (cases ec; done)
    rename_i x0 y0
    simp only [stripD] at ec
    split at ec
    · rename_i hx
      cases ec
      refine ⟨mkS x0, mkS y0, ra, by rw [show y = _ from rb], by rw [mkS_len, sizeLine_eq]; exact hx, ?_⟩
      refine q _ s2 _ _ (by rw [em, em']; exact hk _) ⟨G, ω, h4.pop.pop.pushF (d := .str _) ?_⟩
      show V.str _ = V.str _
      rw [mkS_of]
    · cases ec
end
end VL

namespace VL
open PySem L2 PySem.W PySem.Spec PyProof.Rows
/-! dicts of flat values compared -/
def flatV : D → Bool | .int _ => true | .str _ => true | _ => false
def hitsB (lb : List (D × D)) : List (D × D) → Bool
  | [] => true
  | kv :: r => match findD lb kv.1 with
    | some u => D.eqv kv.2 u && hitsB lb r
    | none => false
def eqDctD : D → D → Option Bool
  | .dct false la, .dct false lb => if (la.all (fun kv => flatV kv.2) && lb.all (fun kv => flatV kv.2)) = true then some (la.length == lb.length && hitsB lb la) else none
  | _, _ => none
def neDctD (a b : D) : Option Bool := (eqDctD a b).map not
variable [EC]
def rEqDct : R2 := fun x y H Q => ∃ la lb, Rep H (.dct false la) x ∧ Rep H (.dct false lb) y ∧ (la.all (fun kv => flatV kv.2)) = true ∧ (lb.all (fun kv => flatV kv.2)) = true ∧ Q (.bl (la.length == lb.length && hitsB lb la)) H
def rNeDct : R2 := fun x y H Q => ∃ la lb, Rep H (.dct false la) x ∧ Rep H (.dct false lb) y ∧ (la.all (fun kv => flatV kv.2)) = true ∧ (lb.all (fun kv => flatV kv.2)) = true ∧ Q (.bl (!(la.length == lb.length && hitsB lb la))) H
theorem flat_at {H : Hp} {A : Around} {s : Shared} {c u : D} {x y : V} {v w : Value} (fc : flatV c = true) (fu : flatV u = true) (hc : Rep H c x) (hu : Rep H u y) (rv : RelV x v) (rw' : RelV y w) : SeqAt.EqAt A s v w (D.eqv c u) := by
  cases c <;> try (cases fc; done)
  · cases (show x = .int _ from hc)
    obtain ⟨t, rfl⟩ := rv
    cases u <;> try (cases fu; done)
    · cases (show y = .int _ from hu)
      obtain ⟨t', rfl⟩ := rw'
      exact keq_flat (PyProof.V.Flat.int _ _) (PyProof.V.Flat.int _ _)
    · cases (show y = .str _ from hu)
      obtain ⟨t', rfl⟩ := rw'
      exact keq_flat (PyProof.V.Flat.int _ _) (PyProof.V.Flat.str _ _)
  · cases (show x = .str _ from hc)
    obtain ⟨t, rfl⟩ := rv
    cases u <;> try (cases fu; done)
    · cases (show y = .int _ from hu)
      obtain ⟨t', rfl⟩ := rw'
      exact keq_flat (PyProof.V.Flat.str _ _) (PyProof.V.Flat.int _ _)
    · rename_i a b
      cases (show y = .str _ from hu)
      obtain ⟨t', rfl⟩ := rw'
      have := keq_flat (A := A) (s := s) (PyProof.V.Flat.str (mkS a) t) (PyProof.V.Flat.str (mkS b) t')
      rwa [show PyData.eqv (.str (mkS a)) (.str (mkS b)) = D.eqv (.str a) (.str b) from mkS_beq a b] at this
theorem hits_of {H : Hp} {A : Around} {s : Shared} {lb : List (D × D)} {kb : List (Key × V)} {vb : List (Key × Value)} (rb : RepK H lb kb) (Kb : KV kb vb) (fb : (lb.all (fun kv => flatV kv.2)) = true) :
    ∀ (la : List (D × D)) (ka : List (Key × V)) (va : List (Key × Value)), RepK H la ka → KV ka va → (la.all (fun kv => flatV kv.2)) = true → KeqHits A s vb va (hitsB lb la)
  | [], ka, va, h, k, _ => by
    cases (show ka = [] from h)
    cases k
    exact .nil
  | (d, c) :: la, _, va, ⟨kk, v, r, e, ek, hr, q⟩, k, f => by
    subst e
    simp only [List.all_cons, Bool.and_eq_true] at f
    cases k with
    | cons h1 h2 =>
      rename_i pv pr
      obtain ⟨key, val⟩ := pv
      have e1 : kk = key := h1.1
      subst e1
      have ih := hits_of (A := A) (s := s) rb Kb fb la r pr q h2 f.2
      unfold hitsB
      rcases repK_find ek rb with ⟨f1, f2⟩ | ⟨u, w, f1, f2, f3⟩
      · rw [show findD lb (d, c).1 = none from f1]
        exact .miss (RelO.none_of (by rw [← f2]; exact Kb.val kk))
      · rw [show findD lb (d, c).1 = some u from f1]
        obtain ⟨w', hw, rw'⟩ := RelO.some_of (v := w) (o := valueAt vb kk) (by rw [← f2]; exact Kb.val kk)
        have fu : flatV u = true := by
          obtain ⟨kv, hkv, rfl⟩ : ∃ kv, kv ∈ lb ∧ kv.2 = u := by
            unfold findD at f1
            cases hf : lb.find? fun kv => D.eqv kv.1 d with
            | none => rw [hf] at f1; cases f1
            | some kv => rw [hf] at f1; cases f1; exact ⟨kv, List.mem_of_find?_eq_some hf, rfl⟩
          exact List.all_eq_true.mp fb kv hkv
        exact .hit hw (flat_at f.1 fu hr f3 h1.2 rw') ih
theorem op_eqDct {X : Cx} (hu : X.A.units + 64 < cLine) : OpR X (compareOp .Eq) rEqDct := by
  intro pins s σ H x y v u Q I rx ry ⟨la, lb, ra, rb, fa, fb, q⟩
  obtain ⟨a, ka, e1, ga, qa⟩ := ra
  obtain ⟨b, kb, e2, gb, qb⟩ := rb
  subst e1 e2
  cases rx
  cases ry
  obtain ⟨_, za, va, Ka, da⟩ := dk_rd I.hok ga
  obtain ⟨_, zb, vb, Kb, db⟩ := dk_rd I.hok gb
  have l1 : la.length = va.length := (repK_len qa).trans (Paired.length Ka)
  have l2 : lb.length = vb.length := (repK_len qb).trans (Paired.length Kb)
  exact keq_eq za zb da db (by omega) (fun _ => hits_of qb Kb fb la ka va qa Ka fa) ⟨.bl _, H, I, by rw [← l1, ← l2]; rfl, q⟩
theorem op_neDct {X : Cx} (hu : X.A.units + 64 < cLine) : OpR X (compareOp .NotEq) rNeDct := by
  intro pins s σ H x y v u Q I rx ry ⟨la, lb, ra, rb, fa, fb, q⟩
  obtain ⟨a, ka, e1, ga, qa⟩ := ra
  obtain ⟨b, kb, e2, gb, qb⟩ := rb
  subst e1 e2
  cases rx
  cases ry
  obtain ⟨_, za, va, Ka, da⟩ := dk_rd I.hok ga
  obtain ⟨_, zb, vb, Kb, db⟩ := dk_rd I.hok gb
  have l1 : la.length = va.length := (repK_len qa).trans (Paired.length Ka)
  have l2 : lb.length = vb.length := (repK_len qb).trans (Paired.length Kb)
  exact keq_ne za zb da db (by omega) (fun _ => hits_of qb Kb fb la ka va qa Ka fa) ⟨.bl _, H, I, by rw [← l1, ← l2]; rfl, q⟩
theorem o_eqDct : Op2B rEqDct eqDctD := fun H x y a b c Q ra rb e q => by
  cases a <;> try (cases e; done)
  rename_i k1 la
  cases b <;> try (cases k1 <;> cases e; done)
  rename_i k2 lb
  cases k1 <;> cases k2 <;> try (cases e; done)
  simp only [eqDctD] at e
  split at e
  · rename_i h
    cases e
    rw [Bool.and_eq_true] at h
    exact ⟨la, lb, ra, rb, h.1, h.2, q⟩
  · cases e
theorem o_neDct : Op2B rNeDct neDctD := fun H x y a b c Q ra rb e q => by
  unfold neDctD at e
  cases e1 : eqDctD a b with
  | none => rw [e1] at e; cases e
  | some c' =>
    rw [e1] at e
    cases e
    cases a <;> try (cases e1; done)
    rename_i k1 la
    cases b <;> try (cases k1 <;> cases e1; done)
    rename_i k2 lb
    cases k1 <;> cases k2 <;> try (cases e1; done)
    simp only [eqDctD] at e1
    split at e1
    · rename_i h
      cases e1
      rw [Bool.and_eq_true] at h
      exact ⟨la, lb, ra, rb, h.1, h.2, q⟩
    · cases e1
end VL

namespace VL
open PySem L2 PySem.W PySem.Spec PyProof.Rows
/-! max(d.values()) of a dict of whole numbers, told or own -/
variable [EC]
def valsO (p d : Addr) : HO := .ext fun h => h.IsValuesView p d
theorem valsO_ok {P : Program} {w : World} {H : Hp} {h : Heap} {p d : Addr} (e : h.get? p = some { cls := .type "dict_values", data := .fields #[.ref d] }) : ObjOk P w H h p (valsO p d) :=
  ⟨⟨_, e, rfl, rfl⟩, ⟨_, e⟩, fun h1 h2 x k => let ⟨o, ho, r⟩ := x; ⟨o, k o ho, r⟩⟩
def tDM0 (r : V → List V → Hp → VK → Prop) (to : TE) : TE := fun σ H Q => to σ H fun x H1 => ∃ a, x = .ref a ∧ IsD H1 a ∧ r x [] H1 Q
section
variable {X : Cx} {o : Expr} {to : TE} {name : Str} {apos cpos : Pos} {id : String} {r : V → List V → Hp → VK → Prop}
theorem pe_dm0 (slot : Slot "dict" name id) (ty : typeOf (.builtin id) = pure (.type "method_descriptor")) (rule : MtR X id r) (ho : PE X o to)
    (hbase : attributeBase o name X.env (eval o X.env) = eval o X.env := by rfl) (hline : (apos.endLine == cpos.line) = true := by rfl) : PE X (.Call (.Attribute o name apos) [] [] cpos) (tDM0 r to) := by
  refine ⟨fun pins s σ H Q I h => ?_⟩
  refine wpAny_Call_method0_late hbase hline (thn (ho.run pins s σ H _ I h) fun v s1 ⟨x, H1, I1, r1, a, ex, d, q1⟩ => ?_)
  subst ex
  obtain rfl : v = Value.ref a := r1
  obtain ⟨t1, t2, _⟩ := isD_at I1 d
  exact ⟨"dict", id, PySem.F.plainAttrs_dict, slot, ty, t1, t2, Calls.callWith_builtin rfl (PySem.evalArgs_none (rule pins s1 σ H1 (.ref a) [] (.ref a) [] Q I1 rfl .nil q1))⟩
def rValsR : V → List V → Hp → VK → Prop := fun x xs H Q => ∃ (a : Addr) (kvs : List (Key × V)), x = .ref a ∧ xs = [] ∧ Rd H a (.dK kvs) ∧ ∀ p, H p = none → Q (.ref p) (upd H p (valsO p a))
theorem mt_valsR : MtR X "dict.values" rValsR := by
  intro pins s σ H x xs v us Q I rx rxs h
  obtain ⟨a, kvs, rfl, rfl, ha, q⟩ := h
  cases rx
  cases rxs
  obtain ⟨z, hd, vs, kv, hdo⟩ := dk_rd I.hok ha
  refine call_meetsIn PySem.F.slot_dict_values hdo.typeIs PySem.F.entry_dict_values (PySem.F.args_dict_values_1 _) (meets_dict_values (mixKind X.prog X.w) a hd) ⟨⟨vs, hdo⟩, ?_⟩
  have hf : H s.heap.objs.size = none := I.hok.fresh (Nat.le_refl _)
  exact ⟨.ref s.heap.objs.size, upd H s.heap.objs.size (valsO s.heap.objs.size a), I.laid (t' := s.toks) (fun b u e => Heap.get?_push_of_some _ e) (Nat.le_refl _) (valsO_ok (Heap.get?_push_size _ rfl)), rfl, q _ hf⟩
def rMaxV : List V → Hp → VK → Prop := fun vs H Q => ∃ (p a : Addr) (kvs : List (Key × V)) (ns : List Int), vs = [.ref p] ∧ H p = some (valsO p a) ∧ Rd H a (.dK kvs) ∧ kvs.map (·.2) = ns.map V.int ∧ 0 < ns.length ∧ ∀ m, m ∈ ns → (∀ y, y ∈ ns → y ≤ m) → Q (.int m) H
theorem cr_maxV (hcalm : X.calm = true) : CallR X (.builtin "max") rMaxV := by
  intro pins s σ H vs us Q I r h
  obtain ⟨p, a, kvs, ns, rfl, hp, ha, hn, hne, q⟩ := h
  rw [Vals.ref1 r]
  have view : s.heap.IsValuesView p a := (show ObjOk X.prog X.w H s.heap p (valsO p a) from I.hok p _ hp).1
  obtain ⟨z, lo, xs, rel, dd⟩ := dk_rd I.hok ha
  obtain ⟨es, ep, raw, hsz, hes⟩ := Heap.DictOf.raw dd
  have l1 : kvs.length = xs.length := Paired.length rel
  have l2 : kvs.length = ns.length := by have := congrArg List.length hn; simpa using this
  have hval : ∀ i (hi : i < es.size), ∃ t, es[i].val = .int (ns.getD i 0) t := fun i hi => by
    have hx : i < xs.length := by omega
    obtain ⟨e1, e2⟩ := hes i hi (xs[i]).1 (xs[i]).2 (List.getElem?_eq_getElem hx)
    have hk : kvs[i]? = some (kvs[i]'(by omega)) := List.getElem?_eq_getElem (by omega)
    obtain ⟨qv, g1, g2, g3⟩ := LiI.paired_get rel hk
    rw [List.getElem?_eq_getElem hx] at g1
    cases g1
    have e3 : (kvs[i]'(by omega)).2 = .int (ns.getD i 0) := by
      have := congrArg (fun l : List V => l[i]?) hn
      simp only [List.getElem?_map, hk, Option.map_some] at this
      rw [List.getElem?_eq_getElem (show i < ns.length by omega)] at this
      simp only [Option.map_some, Option.some.injEq] at this
      rw [this, List.getD_eq_getElem?_getD, List.getElem?_eq_getElem (show i < ns.length by omega)]
      rfl
    rw [e3] at g3
    obtain ⟨t, ht⟩ := g3
    exact ⟨t, e2.trans ht⟩
  have hne' : 0 < es.size := by omega
  have dI : a ≠ s.heap.objs.size := Nat.ne_of_lt (let ⟨o, ho, _⟩ := raw; Heap.lt_size ho)
  refine call_max_walk (wpAny_pyIter_values_raw view raw ⟨s.heap.objs.size, [s.heap.objs.size, a], [s.heap.objs.size], es.size, (fun i v => ∃ t, v = .int (ns.getD i 0) t), _, _, rfl,
    (Walks.rawValues (A := X.A.in1) (I.ok.hd hcalm) s.heap.objs.size a dI es ep).mono_item (fun i v _ ⟨hi, e⟩ => by obtain ⟨t, ht⟩ := hval i hi; exact ⟨t, e.trans ht⟩),
    ⟨⟨_, Heap.get?_push_size _ rfl, rfl, rfl⟩, raw.at fun o e => Heap.get?_push_of_some _ e⟩, fun b hb => ?_, hne', CmpOf.ints_gt (fun i => ns.getD i 0) (fun i v h => h), fun v h' tk hP hk => ?_⟩)
  · have hs : ∀ o, (s.heap.push o).objs.size = s.heap.objs.size + 1 := fun o => Heap.size_push ..
    refine Nat.lt_of_lt_of_eq ?_ (hs _).symm
    simp only [List.mem_cons, List.not_mem_nil, or_false] at hb
    rcases hb with rfl | rfl
    · exact Nat.lt_succ_self _
    · exact Nat.lt_succ_of_lt (let ⟨o, ho, _⟩ := raw; Heap.lt_size ho)
  · obtain ⟨t, rfl⟩ := hP
    obtain ⟨h1, h2⟩ := argBest_gt (fun i => ns.getD i 0) (es.size - 1)
    refine ⟨.int _, H, I.kept (t' := tk) (fun b o e => hk b o (fun hm => ?_) (Heap.get?_push_of_some _ e)), ⟨t, rfl⟩, q _ ?_ fun y hy => ?_⟩
    · rw [List.mem_singleton] at hm
      rw [hm] at e
      exact absurd (Heap.lt_size e) (Nat.lt_irrefl _)
    · exact PySem.getD_mem (by omega)
    · obtain ⟨j, hj, rfl⟩ := mem_getD hy
      exact h2 j (by omega)
end
def maxVD : D → Option D
  | .dct false l => maxQ (intsD (l.map (·.2)))
  | _ => none
section
variable {R : Type} {F : Fc} {tmp : Tmp} {s : State} {m : Res R} {td : TE} {K : Rs R}
theorem rd_maxV (h : RD F tmp s td m (fun tm1 s1 m1 => ∃ a k, valS s1 tm1 = some a ∧ m1 = ob (maxVD a) k ∧ ∀ c, K (.own (.f c)) s1 (k c))) : RD F tmp s (tCB rMaxV (tCons (tDM0 rValsR td) tNil)) m K := fun σ H Q hh nf eo q =>
  h σ H _ hh nf eo fun tm1 s1 x H1 ⟨d, k, ea, em, hk⟩ h1 => by
    obtain ⟨c, ec, em'⟩ := ob_cases (by rw [← em]; exact nf)
    obtain ⟨G, ω, h2⟩ := h1
    have r := h2.repC h2.tm.1 ea
    cases d <;> try (cases ec; done)
    rename_i kk l
    cases kk <;> try (cases ec; done)
    obtain ⟨a, kvs, e1, ga, qa⟩ := r
    subst e1
    simp only [maxVD] at ec
    cases e2 : intsD (l.map (·.2)) with
    | none => rw [e2] at ec; cases ec
    | some is =>
      rw [e2] at ec
      cases is with
      | nil => cases ec
      | cons i r =>
        cases ec
        have hv : kvs.map (·.2) = (i :: r).map V.int := by
          refine intsD_reps (G := G) e2 ?_
          have : ∀ (l : List (D × D)) (kvs : List (Key × V)), RepK G l kvs → Reps G (l.map (·.2)) (kvs.map (·.2)) := by
            intro l
            induction l with
            | nil => intro kvs h; cases (show kvs = [] from h); rfl
            | cons p l ih =>
              intro kvs h
              obtain ⟨kk, v, r, e, _, h1, h2⟩ := h
              subst e
              exact ⟨v, _, rfl, h1, ih _ h2⟩
          exact this l kvs qa
        refine ⟨a, rfl, .inl ⟨kvs, ga⟩, a, kvs, rfl, rfl, ga, fun p np => ?_⟩
        have h3 := (h2.pop).newG (o := valsO p a) np
        have hap : a ≠ p := fun z => by
          rcases ga with ga | ⟨_, ga⟩ <;> (rw [z, np] at ga; cases ga)
        refine ⟨p, a, kvs, i :: r, rfl, upd_same, ?_, hv, by simp, fun m hm hle => ?_⟩
        · rcases ga with ga | ⟨x, ga⟩
          · exact .inl (by rw [upd_ne hap]; exact ga)
          · exact .inr ⟨x, by rw [upd_ne hap]; exact ga⟩
        · have g1 := hle _ (maxI_in (l := i :: r) (by simp))
          have g2 := maxI_le hm
          rw [show m = maxI (i :: r) by omega]
          exact q _ s1 _ _ (by rw [em, em']; exact hk _) ⟨_, ω, h3.pushF (d := .int _) rfl⟩
end
end VL

namespace VL
open PySem L2
/-! own tuples: a mask tells which parts are lists of their own -/
def shL : List Bool → List D → List T
  | true :: ks, d :: ds => optT d :: shL ks ds
  | false :: ks, d :: ds => .f d :: shL ks ds
  | _, ds => ds.map T.f
def shT (ks : List Bool) : D → T | .tup ds => .tt (shL ks ds) | d => .f d
def onT {R : Type} (r : D) (a : List D → Res R) (b : Res R) : Res R := match r with | .tup ds => a ds | _ => b
def partL (ds : List D) (n : Nat) : Option (List D) := match ds[n]? with | some (.lst l) => some l | _ => none
theorem shL_ers : ∀ (ks : List Bool) (ds : List D), (shL ks ds).map T.er = ds
  | [], ds => by
    have : shL [] ds = ds.map T.f := by cases ds <;> rfl
    rw [this, List.map_map]
    exact (List.map_congr_left fun _ _ => rfl).trans (List.map_id ds)
  | true :: ks, [] => rfl
  | false :: ks, [] => rfl
  | true :: ks, d :: ds => by
    show (optT d).er :: (shL ks ds).map T.er = _
    rw [optT_er, shL_ers ks ds]
  | false :: ks, d :: ds => by
    show d :: (shL ks ds).map T.er = _
    rw [shL_ers ks ds]
theorem shL_get : ∀ (ks : List Bool) (ds : List D) (n : Nat) (d : D), ks[n]? = some true → ds[n]? = some d → (shL ks ds)[n]? = some (optT d)
  | [], _, _, _, h, _ => by simp at h
  | _ :: _, [], n, _, _, h => by simp at h
  | k :: ks, d0 :: ds, 0, d, h, h2 => by simp at h h2; subst h; subst h2; rfl
  | true :: ks, d0 :: ds, n + 1, d, h, h2 => by
    show (optT d0 :: shL ks ds)[n + 1]? = _
    simpa using shL_get ks ds n d (by simpa using h) (by simpa using h2)
  | false :: ks, d0 :: ds, n + 1, d, h, h2 => by
    show (T.f d0 :: shL ks ds)[n + 1]? = _
    simpa using shL_get ks ds n d (by simpa using h) (by simpa using h2)
theorem shL_set : ∀ (ks : List Bool) (ds : List D) (n : Nat) (d : D), ks[n]? = some true → shL ks (ds.set n d) = (shL ks ds).set n (optT d)
  | [], _, _, _, h => by simp at h
  | true :: _, [], n, _, _ => by simp [shL]
  | false :: _, [], n, _, _ => by simp [shL]
  | k :: ks, d0 :: ds, 0, d, h => by simp at h; subst h; rfl
  | true :: ks, d0 :: ds, n + 1, d, h => by
    show optT d0 :: shL ks (ds.set n d) = optT d0 :: (shL ks ds).set n (optT d)
    rw [shL_set ks ds n d (by simpa using h)]
  | false :: ks, d0 :: ds, n + 1, d, h => by
    show T.f d0 :: shL ks (ds.set n d) = T.f d0 :: (shL ks ds).set n (optT d)
    rw [shL_set ks ds n d (by simpa using h)]
variable [EC]
omit [EC] in
theorem ers_shL : ∀ (ks : List Bool) (ds : List D), T.ers (shL ks ds) = ds
  | [], ds => by
    have : shL [] ds = ds.map T.f := by cases ds <;> rfl
    rw [this]
    induction ds with
    | nil => rfl
    | cons d r ih => show d :: T.ers (r.map T.f) = _; rw [ih (by cases r <;> rfl)]
  | true :: ks, [] => rfl
  | false :: ks, [] => rfl
  | true :: ks, d :: ds => by
    show (optT d).er :: T.ers (shL ks ds) = _
    rw [optT_er, ers_shL ks ds]
  | false :: ks, d :: ds => by
    show d :: T.ers (shL ks ds) = _
    rw [ers_shL ks ds]
omit [EC] in
theorem er_tt (ks : List Bool) (ds : List D) : T.er (.tt (shL ks ds)) = .tup ds := by
  show D.tup (T.ers _) = _
  rw [ers_shL]
theorem shT_er (ks : List Bool) (d : D) : (shT ks d).er = d := by
  cases d <;> first | rfl | exact er_tt ks _
section
variable {F : Fc} {tmp : Tmp} {s : State} {σ : St} {H : Hp} {v : V} {t : T}
/-- one of an owned list's things is taken out -/
theorem Holds.takeOutT (h : Holds F tmp s σ H) {i j : Nat} {ts : List T} (hi : s[i]? = some (some (.tt ts))) (hj : ts[j]? = some t) :
    ∃ a vs v, σ[i]? = some (some (.ref a)) ∧ H a = some (.tup vs) ∧ vs.length = ts.length ∧ vs[j]? = some v ∧ Holds F ((v, .own t) :: tmp) (s.set i (some (.tt (ts.set j (.hole v))))) σ H := by
  obtain ⟨G, ω, h⟩ := h
  obtain ⟨u, e1, a, vs, e2, ha, hw, z, r⟩ := h.sl i _ hi
  subst e2
  obtain ⟨v, e3, e4⟩ := r.get hj
  rw [Nat.zero_add] at e4
  have hil : i < s.length := (List.getElem?_eq_some_iff.mp hi).1
  have hjl : j < ts.length := (List.getElem?_eq_some_iff.mp hj).1
  refine ⟨a, vs, v, e1, ha, r.len.symm, e3, G, _, h.rl (phiOut tmp.length i j) _ σ _ (by simp [h.len]) (fun k u e => ?_) ⟨?_, Tms.rl tmp (fun k x hk => ?_) h.tm⟩ h.pn⟩
  · by_cases hk : i = k
    · subst hk
      rw [List.getElem?_set_self hil] at e
      cases e
      refine ⟨_, e1, a, vs, rfl, ha, rl_of hw rfl, by simpa using z, Owns.of (by simp [r.len]) fun k t' v' a1 a2 => ?_⟩
      rw [List.getElem?_set] at a1
      rw [Nat.zero_add]
      by_cases hk : j = k
      · subst hk
        rw [if_pos rfl, if_pos hjl] at a1
        cases a1
        rw [e3] at a2; cases a2
        exact rfl
      · rw [if_neg hk] at a1
        obtain ⟨w, b1, b2⟩ := r.get a1
        rw [a2] at b1; cases b1
        rw [Nat.zero_add] at b2
        have hk' : ¬ k = j := fun z => hk z.symm
        exact Own.rl b2 fun x => by simp [phiOut, hk']
    · rw [List.getElem?_set_ne hk] at e
      obtain ⟨v', b1, b2⟩ := h.sl k u e
      have hk' : ¬ k = i := fun z => hk z.symm
      refine ⟨v', b1, Own.rl b2 fun x => ?_⟩
      cases x <;> simp [phiOut, hk']
  · exact Own.rl e4 fun x => by simp [phiOut]
  · have : ¬ k = tmp.length := by omega
    simp [phiOut, this]
/-- and put back -/
theorem Holds.putInT (pre : Tmp) (h : Holds F (pre ++ ((v, .own t) :: tmp)) s σ H) {i j : Nat} {ts : List T} (hi : s[i]? = some (some (.tt ts))) (hj : ts[j]? = some (.hole v)) :
    Holds F (pre ++ tmp) (s.set i (some (.tt (ts.set j t)))) σ H := by
  obtain ⟨G, ω, h⟩ := h
  obtain ⟨u, e1, a, vs, e2, ha, hw, z, r⟩ := h.sl i _ hi
  subst e2
  obtain ⟨v', e3, e4⟩ := r.get hj
  cases (show v' = v from e4)
  have hil : i < s.length := (List.getElem?_eq_some_iff.mp hi).1
  have hjl : j < ts.length := (List.getElem?_eq_some_iff.mp hj).1
  have ok : Own G H ω [1, tmp.length] t v := Tms.at (tm := .own t) pre h.tm
  have h0 : Tms G H ω σ tmp := (Tms.tail pre h.tm).2
  refine ⟨G, rl ω (fun l => (phiIn tmp.length i j l).bind (phiMid tmp.length 1)), h.rl _ _ σ _ (by simp [h.len]) (fun k u e => ?_) ?_ h.pn⟩
  · by_cases hk : i = k
    · subst hk
      rw [List.getElem?_set_self hil] at e
      cases e
      refine ⟨_, e1, a, vs, rfl, ha, rl_of hw rfl, by simpa using z, Owns.of (by simp [r.len]) fun k t' v2 a1 a2 => ?_⟩
      rw [List.getElem?_set] at a1
      rw [Nat.zero_add]
      by_cases hk : j = k
      · subst hk
        rw [if_pos rfl, if_pos hjl] at a1
        cases a1
        rw [e3] at a2; cases a2
        exact Own.rl ok fun x => by simp [phiIn, phiMid]
      · rw [if_neg hk] at a1
        obtain ⟨w, b1, b2⟩ := r.get a1
        rw [a2] at b1; cases b1
        rw [Nat.zero_add] at b2
        have hk' : ¬ k = j := fun z => hk z.symm
        exact Own.rl b2 fun x => by simp [phiIn, phiMid, hk']
    · rw [List.getElem?_set_ne hk] at e
      obtain ⟨v', b1, b2⟩ := h.sl k u e
      have hk' : ¬ k = i := fun z => hk z.symm
      refine ⟨v', b1, Own.rl b2 fun x => ?_⟩
      cases x <;> simp [phiIn, phiMid, hk']
  · refine Tms.rlMid (tmp := (v, .own t) :: tmp) (tmp' := tmp) (Tms.rl tmp (fun k x hk => ?_) h0) (by simp) pre (fun k x hk => ?_) h.tm
    · have : ¬ k = tmp.length := by omega
      simp [phiIn, phiMid, this, hk]
    · have h1 : ¬ tmp.length + 1 + k = tmp.length := by omega
      have h2 : ¬ tmp.length + 1 + k < tmp.length := by omega
      have h3 : ¬ tmp.length + 1 + k < tmp.length + 1 := by omega
      have h4 : tmp.length + 1 + k - 1 = tmp.length + k := by omega
      simp [phiIn, phiMid, h1, h2, h3, h4]
theorem Holds.wrTmpNil {D' : Addr} {acc : List D} (h : Holds F ((.ref D', .own (.l acc)) :: tmp) s σ H) :
    ∃ vs, H D' = some (.lst vs) ∧ Holds F ((.ref D', .own (.l [])) :: tmp) s σ (upd H D' (.lst [])) := by
  obtain ⟨G, ω, h⟩ := h
  obtain ⟨⟨a, vs, e, ha, hw, z, r⟩, ht⟩ := h.tm
  cases e
  refine ⟨vs, ha, G, ω, h.wr hw _ rfl (fun j u e => ?_) ⟨⟨D', [], rfl, upd_same, hw, Nat.zero_le _, rfl⟩, Tms.wrO hw tmp (fun j hj => ?_) ht⟩⟩
  · obtain ⟨v', b1, b2⟩ := h.sl j u e
    exact ⟨v', b1, Own.wrO hw (by simp [pre]) b2⟩
  · have : ¬ j = tmp.length := by omega
    simp [pre, this]
end
section
variable {R : Type} {F : Fc} {tmp : Tmp} {s : State} {m : Res R} {K : Rs R} {N : Rn R} {Rt : Rr R} {ta tb te to ti : TE} {Kf : PySem.W.Frag}
/-- a display of owned things -/
theorem rd_tupO {t : TA} (h : RA F tmp s m t (fun tms s1 m1 => ∃ ts : List T, tms = ts.map TM.own ∧ ts.length ≤ 1000 ∧ K (.own (.tt ts)) s1 m1)) : RD F tmp s (tTup t) m K := fun σ H Q hh nf eo q =>
  h σ H _ hh nf eo fun tms s1 vs H1 ⟨ts, et, hz, hk⟩ hl h1 => by
    obtain ⟨G, ω, h2⟩ := h1
    obtain ⟨t0, args⟩ := Tms.args vs tms tmp hl h2.tm
    subst et
    have hlen : ts.length = vs.length := by rw [hl]; simp
    have z : ts.length ≤ sizeLine := by rw [sizeLine_eq]; omega
    refine ⟨by rw [← hlen]; exact z, fun p hp => ?_⟩
    have h3 : Hd F G (rl ω (phiDisp tmp.length)) tmp s1 σ H1 := h2.rl _ s1 σ tmp h2.len (fun i u e => by
      obtain ⟨v', e1, e2⟩ := h2.sl i u e
      exact ⟨v', e1, Own.rl e2 fun x => by simp [phiDisp]⟩) (Tms.rl tmp (fun j x hj => by simp [phiDisp, hj]) t0) h2.pn
    refine q _ s1 _ _ hk ⟨G, _, h3.newO hp ⟨p, vs, rfl, upd_same, by simp, z, Owns.of hlen fun j t v a b => ?_⟩⟩
    obtain ⟨w, w1, w2⟩ := args j (.own t) (by rw [List.getElem?_map, a]; rfl)
    rw [b] at w1; cases w1
    rw [Nat.zero_add]
    have hgt : ∀ x, phiDisp tmp.length ([1, tmp.length + j] ++ x) = some (([1, tmp.length] ++ [j]) ++ x) := fun x => by
      have h1 : ¬ tmp.length + j < tmp.length := by omega
      have h2 : tmp.length + j - tmp.length = j := by omega
      simp [phiDisp, h2]
    refine Own.move (Same.refl _) _ _ t v (fun a x e => ?_) w2
    obtain ⟨_, ⟨o, ho⟩, _⟩ := h2.wg a _ e
    have ne := ne_of_none ho hp
    exact ⟨upd_ne ne, by rw [if_neg ne]; exact rl_of e (hgt x)⟩
theorem rd_fzT {ks : List Bool} {te : TE} (h : RD F tmp s te m (fun tm s1 m1 => ∃ d, tm = .own (shT ks d) ∧ K (.own (.f d)) s1 m1)) : RD F tmp s te m K := rd_fz fun σ H Q hh nf eo q =>
  h σ H Q hh nf eo fun tm s' v H' ⟨d, e, hk⟩ h1 => q tm s' v H' ⟨shT ks d, e, by rw [shT_er]; exact hk⟩ h1
theorem rs_onT {i : Nat} {ks : List Bool} {r : D} {a : List D → Res R} {b : Res R} {t : TS} (hi : s[i]? = some (some (shT ks r))) (em : m = onT r a b)
    (ha : ∀ ds, RS F tmp (s.set i (some (.tt (shL ks ds)))) (a ds) t N Rt) (hb : RS F tmp (s.set i (some (.f r))) b t N Rt) : RS F tmp s m t N Rt := by
  have key : ∀ u : T, s[i]? = some (some u) → s.set i (some u) = s := fun u h => by
    obtain ⟨hl, e⟩ := List.getElem?_eq_some_iff.mp h
    rw [← e]
    exact List.set_getElem_self hl
  subst em
  by_cases hr : ∃ ds, r = .tup ds
  · obtain ⟨ds, rfl⟩ := hr
    have := ha ds
    rw [key (.tt (shL ks ds)) hi] at this
    exact this
  · have e1 : shT ks r = .f r := by cases r <;> first | rfl | exact absurd ⟨_, rfl⟩ hr
    have e2 : onT r a b = b := by cases r <;> first | rfl | exact absurd ⟨_, rfl⟩ hr
    rw [e1] at hi
    rw [key _ hi] at hb
    rw [e2]; exact hb
theorem partL_eq {ds : List D} {n : Nat} {l : List D} (h : partL ds n = some l) : ds[n]? = some (.lst l) := by
  unfold partL at h
  split at h
  · cases h; assumption
  · cases h
/-- x[n] of an own tuple, taken out -/
theorem rd_takeT {i n : Nat} {ks : List Bool} {ds : List D} {k : List D → Res R} {Q : VK} {σ : St} {H : Hp} (hs : s[i]? = some (some (.tt (shL ks ds)))) (hk : ks[n]? = some true)
    (hh : Holds F tmp s σ H) (nf : m ≠ .fail) (em : m = ob (partL ds n) k)
    (h : ∀ l v, m = k l → Holds F ((v, .own (.l l)) :: tmp) (s.set i (some (.tt ((shL ks ds).set n (.hole v))))) σ H → Q v H) : tOp (rIxA Kf) (tVar i) (tC (.int (n : Int))) σ H Q := by
  obtain ⟨l, el, em'⟩ := ob_cases (by rw [← em]; exact nf)
  have e0 := partL_eq el
  obtain ⟨a, vs, v, e1, ha, hl, hv, h4⟩ := hh.takeOutT hs (shL_get ks ds n _ hk e0)
  refine ⟨.ref a, e1, .inr (.inl ⟨a, vs, (n : Int), v, rfl, rfl, .inl (.inl ha), ?_, h l v (by rw [em, em']) h4⟩)⟩
  have hn : n < vs.length := (List.getElem?_eq_some_iff.mp hv).1
  unfold atI
  have : ixN vs.length (n : Int) = some n := by unfold ixN; simp; omega
  rw [this]; exact hv
theorem own_ty {l : List D} {v : V} {H : Hp} {σ : St} (h : Holds F ((v, .own (.l l)) :: tmp) s σ H) : tyV Kf "list" v H ∧ ∃ a vs, v = .ref a ∧ H a = some (.lst vs) ∧ vs.length = l.length := by
  obtain ⟨G, ω, h3⟩ := h
  obtain ⟨a, vs, e, ha, hw, z, r⟩ := h3.tm.1
  subst e
  exact ⟨.inl ⟨rfl, vs, .inl (.inl ha)⟩, a, vs, rfl, ha, r.length.symm⟩
/-- x[n].append(e) -/
theorem rd_appendT {i n : Nat} {ks : List Bool} {ds : List D} {k : List D → Res R} (hs : s[i]? = some (some (.tt (shL ks ds)))) (hk : ks[n]? = some true) (em : m = ob (partL ds n) k)
    (h : ∀ l v, RD F ((v, .own (.l l)) :: tmp) (s.set i (some (.tt ((shL ks ds).set n (.hole v))))) te (k l) (fun tm2 s2 m2 => ∃ d2 k2, tm2 = .own (.f d2) ∧ s2[i]? = some (some (.tt ((shL ks ds).set n (.hole v)))) ∧
        m2 = ob (apL l d2) k2 ∧ ∀ l', K (.own (.f .non)) (s2.set i (some (.tt (shL ks (ds.set n (.lst l')))))) (k2 l'))) :
    RD F tmp s (tBM Kf "list" rAppend (tOp (rIxA Kf) (tVar i) (tC (.int (n : Int)))) (tCons te tNil)) m K := fun σ H Q hh nf eo q => by
  refine rd_takeT hs hk hh nf em fun l v e1 h2 => ?_
  refine ⟨(own_ty h2).1, ?_⟩
  have hkj := h l v
  rw [← e1] at hkj
  have hnl : n < (shL ks ds).length := by
    obtain ⟨l1, el1, _⟩ := ob_cases (by rw [← em]; exact nf)
    exact (List.getElem?_eq_some_iff.mp (shL_get ks ds n _ hk (partL_eq el1))).1
  refine hkj σ H _ h2 nf eo fun tm2 s2 w H3 ⟨d2, k2, e2, hi2, em3, hk2⟩ h3 => ?_
  subst e2
  obtain ⟨l', el, em4⟩ := ob_cases (by rw [← em3]; exact nf)
  unfold apL at el
  split at el
  · cases el
    rename_i hlt
    obtain ⟨a, vs, e, ha, hw⟩ : ∃ a vs, v = .ref a ∧ H3 a = some (.lst vs) ∧ vs.length = l.length := by
      obtain ⟨G, ω, h5⟩ := h3
      obtain ⟨a, vs, e, ha, hw, z, r⟩ := h5.tm.2.1
      exact ⟨a, vs, e, ha, r.length.symm⟩
    subst e
    obtain ⟨vs', e5, e6, h6⟩ := h3.wrTmp (by rw [sizeLine_eq]; exact hlt)
    rw [ha] at e5; cases e5
    refine ⟨a, vs, w, rfl, rfl, ha, by rw [hw, sizeLine_eq]; exact hlt, ?_⟩
    have h7 := Holds.putInT [] (j := n) h6 hi2 (by rw [List.getElem?_set_self hnl])
    rw [List.set_set] at h7
    have h8 : (shL ks ds).set n (.l (l ++ [d2])) = shL ks (ds.set n (.lst (l ++ [d2]))) := (shL_set ks ds n (.lst (l ++ [d2])) hk).symm
    rw [h8] at h7
    exact q _ _ .non _ (by rw [em3, em4]; exact hk2 _) (holds_push (d := .non) h7 fun _ => rfl)
  · cases el
/-- x[n].clear() -/
theorem rd_clearT {i n : Nat} {ks : List Bool} {ds : List D} {k : List D → Res R} (hs : s[i]? = some (some (.tt (shL ks ds)))) (hk : ks[n]? = some true) (em : m = ob (partL ds n) k)
    (h : ∀ l, K (.own (.f .non)) (s.set i (some (.tt (shL ks (ds.set n (.lst [])))))) (k l)) :
    RD F tmp s (tBM0 Kf "list" rClear (tOp (rIxA Kf) (tVar i) (tC (.int (n : Int))))) m K := fun σ H Q hh nf eo q => by
  refine rd_takeT hs hk hh nf em fun l v e1 h2 => ?_
  have hnl : n < (shL ks ds).length := by
    obtain ⟨l1, el1, _⟩ := ob_cases (by rw [← em]; exact nf)
    exact (List.getElem?_eq_some_iff.mp (shL_get ks ds n _ hk (partL_eq el1))).1
  have hil : i < s.length := (List.getElem?_eq_some_iff.mp hs).1
  obtain ⟨ht, a, vs, e, ha, hw⟩ := own_ty (Kf := Kf) h2
  subst e
  obtain ⟨vs', e5, h6⟩ := h2.wrTmpNil
  refine ⟨ht, a, vs', rfl, rfl, e5, ?_⟩
  have h7 := Holds.putInT [] (j := n) h6 (List.getElem?_set_self hil) (by rw [List.getElem?_set_self hnl])
  rw [List.set_set, List.set_set] at h7
  have h8 : (shL ks ds).set n (.l []) = shL ks (ds.set n (.lst [])) := (shL_set ks ds n (.lst []) hk).symm
  rw [h8] at h7
  exact q _ _ .non _ (by rw [e1]; exact h l) (holds_push (d := .non) h7 fun _ => rfl)
end
end VL

namespace VL
open PySem L2 PySem.Spec PyProof.Rows
/-! str.upper() -/
def upperD : D → Option D
  | .str a => if a.length ≤ 5592405 then some (.str (Txt.upper (mkS a)).cps.toList) else none
  | _ => none
variable [EC]
section
variable {R : Type} {F : Fc} {tmp : Tmp} {s : State} {m : Res R} {to te : TE} {Kf : PySem.W.Frag} {K : Rs R}
theorem rd_upper (h : RD F tmp s to m (fun tm1 s1 m1 => ∃ d k, valS s1 tm1 = some d ∧ m1 = ob (upperD d) k ∧ ∀ c, K (.own (.f c)) s1 (k c))) :
    RD F tmp s (tBM0 Kf "str" (fun x xs H Q => ∃ a, x = .str a ∧ xs = [] ∧ a.length ≤ 5592405 ∧ Q (.str (Txt.upper a)) H) to) m K := fun σ H Q hh nf eo q =>
  h σ H _ hh nf eo fun tm1 s1 x H1 ⟨d, k, ed, em, hk⟩ h1 => by
    obtain ⟨c, ec, em'⟩ := ob_cases (by rw [← em]; exact nf)
    obtain ⟨G, ω, h4⟩ := h1
    have ra := h4.repC h4.tm.1 ed
    cases d <;> try (cases ec; done)
    rename_i x0
    simp only [upperD] at ec
    split at ec
    · rename_i hx
      cases ec
      have rx : x = V.str (mkS x0) := ra
      refine ⟨by rw [rx]; rfl, mkS x0, rx, rfl, by rw [mkS_len]; exact hx, ?_⟩
      refine q _ s1 _ _ (by rw [em, em']; exact hk _) ⟨G, ω, h4.pop.pushF (d := .str _) ?_⟩
      show V.str _ = V.str _
      rw [mkS_of]
    · cases ec
end
end VL

namespace VL
open PySem L2
/-! == of a text and a thing of any kind -/
def eqE (a b : D) : Option Bool := if a.plain = true ∧ b.plain = true ∧ min a.dep b.dep ≤ 60 then some (D.eqv a b) else if isSt a = true ∧ isDc b = true then some false else none
variable [EC]
def rEqE : R2 := fun x y H Q => rEqM x y H Q ∨ ∃ a b, Rep H a x ∧ Rep H b y ∧ isSt a = true ∧ isDc b = true ∧ Q (.bl false) H
theorem op_eqE {X : Cx} (hu : X.A.units + 64 < cLine) : OpR X (compareOp .Eq) rEqE := by
  intro pins s σ H x y v u Q I rx ry h
  rcases h with h | ⟨a, b, ra, rb, ha, hb, q⟩
  · exact op_eqM hu pins s σ H x y v u Q I rx ry h
  · cases a <;> try (cases ha; done)
    rename_i t
    cases (show x = .str (mkS t) from ra)
    obtain ⟨tk, rfl⟩ := rx
    cases b <;> try (cases hb; done)
    rename_i k kv
    cases k with
    | true => cases hb
    | false =>
      obtain ⟨p, kvs, ey, g, rk⟩ := rb
      subst ey
      cases ry
      obtain ⟨_, _, vs, _, o, es, ep, ho, hx, hd2, _⟩ := (show ObjOk X.prog X.w H s.heap p (.dK kvs) from rd_of I.hok g)
      exact RcAt.str_dict _ _ ho hx.1 hd2 (by omega) X.prog X.w X.xe _ ⟨.bl _, H, I, rfl, q⟩
theorem o_eqE : Op2B rEqE eqE := fun H x y a b c Q ra rb e q => by
  unfold eqE at e
  split at e
  · cases e
    rename_i h
    exact .inl ⟨a, b, ra, rb, h.1, h.2.1, h.2.2, q⟩
  · split at e
    · cases e
      rename_i h
      exact .inr ⟨a, b, ra, rb, h.1, h.2, q⟩
    · cases e
end VL

namespace VL
open PySem L2 RZ
/-! zip of two lists or two tuples; `in` of a dict as a value -/
def asZA : D → D → Option (List D × List D) | .lst a, .lst b => some (a, b) | .tup a, .tup b => some (a, b) | _, _ => none
theorem walk_zipT {K : PySem.W.Frag} {a b : Addr} {xs ys : List V} {n : Nat} (hn : n = min xs.length ys.length) : Walk (ItzT K a b) n (fun H => SqT K H a xs ∧ SqT K H b ys) (YPair (fun i => xs[i]?) (fun i => ys[i]?)) := by
  subst hn
  refine ⟨fun i _ hi q => ?_, fun _ q => ⟨xs, ys, q.1, q.2, by omega⟩, fun i H v H' _ q y => ?_⟩
  · have h1 : i < xs.length := by omega
    have h2 : i < ys.length := by omega
    exact ⟨xs, ys, xs[i], ys[i], q.1, q.2, by simp [h1], by simp [h2]⟩
  · obtain ⟨T, x, z, h1, h2, h3, h4, h5⟩ := y
    exact ⟨T, x, z, h1, h2, h3, h4 xs q.1, h5 ys q.2⟩
variable [EC]
section
variable {R : Type} {F : Fc} {tmp : Tmp} {s : State} {m : Res R} {ta tb ty td : TE} {K : Rs R}
theorem rd_dinV (h : RD F tmp s ty m (fun tm1 s1 m1 => ∀ y, RD F ((y, tm1) :: tmp) s1 td m1 (fun tm2 s2 m2 => ∃ d a k, valS s2 tm1 = some d ∧ valS s2 tm2 = some a ∧ m2 = ob (dinD d a) k ∧ ∀ c, K (.own (.f (.bl c))) s2 (k c)))) : RD F tmp s (tDIn ty td) m K := fun σ H Q hh nf eo q =>
  h σ H _ hh nf eo fun tm1 s1 y H1 h2 h1 => h2 y σ H1 _ h1 nf eo fun tm2 s2 x H2 ⟨d, a, k, ed, ea, em, hk⟩ h3 => by
    obtain ⟨c, ec, em'⟩ := ob_cases (by rw [← em]; exact nf)
    obtain ⟨p, o, e1, g, e2⟩ := din_core (f := id) h3 ed ea ec
    exact ⟨p, o, e1, g, q _ s2 _ H2 (by rw [em, em', e2]; exact hk _) (holds_push (d := .bl _) h3.pop.pop fun _ => rfl)⟩
theorem rd_dnotinV (h : RD F tmp s ty m (fun tm1 s1 m1 => ∀ y, RD F ((y, tm1) :: tmp) s1 td m1 (fun tm2 s2 m2 => ∃ d a k, valS s2 tm1 = some d ∧ valS s2 tm2 = some a ∧ m2 = ob (dinD d a) k ∧ ∀ c, K (.own (.f (.bl (!c)))) s2 (k c)))) : RD F tmp s (tDNotIn ty td) m K := fun σ H Q hh nf eo q =>
  h σ H _ hh nf eo fun tm1 s1 y H1 h2 h1 => h2 y σ H1 _ h1 nf eo fun tm2 s2 x H2 ⟨d, a, k, ed, ea, em, hk⟩ h3 => by
    obtain ⟨c, ec, em'⟩ := ob_cases (by rw [← em]; exact nf)
    obtain ⟨p, o, e1, g, e2⟩ := din_core (f := id) h3 ed ea ec
    exact ⟨p, o, e1, g, q _ s2 _ H2 (by rw [em, em', e2]; exact hk _) (holds_push (d := .bl _) h3.pop.pop fun _ => rfl)⟩
theorem ri_zipA {Kf : PySem.W.Frag} {K : Ki R} (h : RD F tmp s ta m (fun tm1 s1 m1 => ∀ x, RD F ((x, tm1) :: tmp) s1 tb m1 (fun tm2 s2 m2 => ∃ a b k, valS s2 tm1 = some a ∧ valS s2 tm2 = some b ∧ m2 = ob (asZA a b) k ∧ ∀ p y, K [(y, tm2), (x, tm1)] (fun s => valS s tm1 = valS s2 tm1 ∧ valS s tm2 = valS s2 tm2) id (zipD p.1 p.2) s2 (k p)))) : RI F tmp s m (iZipA Kf (tCons ta (tCons tb tNil))) K := fun σ H Q hh nf eo q =>
  h σ H _ hh nf eo fun tm1 s1 x H1 hx h1 => hx x σ H1 _ h1 nf eo fun tm2 s2 y H2 ⟨a0, b0, k0, ea, eb, em, hk0⟩ h2 => by
    obtain ⟨pp, ep, em'⟩ := ob_cases (by rw [← em]; exact nf)
    have hk := hk0 pp
    rw [show m = k0 pp from by rw [em, em']] at q
    have hk : ∀ y, K [(y, tm2), (x, tm1)] (fun s => valS s tm1 = valS s2 tm1 ∧ valS s tm2 = valS s2 tm2) id (zipD pp.1 pp.2) s2 (k0 pp) := hk0 pp
    cases a0 <;> cases b0 <;> try (cases ep; done)
    · rename_i da db
      cases ep
      have at_ : ∀ (pre : Tmp) s σ H, (valS s tm1 = some (.tup da) ∧ valS s tm2 = some (.tup db)) → Holds F (pre ++ ([(y, tm2), (x, tm1)] ++ tmp)) s σ H → ∃ a b vs ws G ω, x = .ref a ∧ y = .ref b ∧ H a = some (.tup vs) ∧ H b = some (.tup ws) ∧ Hd F G ω (pre ++ ([(y, tm2), (x, tm1)] ++ tmp)) s σ H ∧ Reps G da vs ∧ Reps G db ws ∧ da.length ≤ sizeLine := fun pre s σ H e ⟨G, ω, h⟩ => by
        have q1 := Tms.at (tm := tm2) (tmp := (x, tm1) :: tmp) pre h.tm
        have q2 := Tms.at (tm := tm1) (tmp := tmp) (pre ++ [(y, tm2)]) (by rw [List.append_assoc]; exact h.tm)
        obtain ⟨b, ws, e2, g2, z2, r2⟩ := h.repC q1 e.2
        obtain ⟨a, vs, e1, g1, z1, r1⟩ := h.repC q2 e.1
        exact ⟨a, b, vs, ws, G, ω, e1, e2, g1, g2, h, r1, r2, z1⟩
      have hp' : ∀ {s : State}, (valS s tm1 = valS s2 tm1 ∧ valS s tm2 = valS s2 tm2) → (valS s tm1 = some (.tup da) ∧ valS s tm2 = some (.tup db)) := fun h => ⟨h.1.trans ea, h.2.trans eb⟩
      obtain ⟨a, b, vs, ws, G, ω, e1, e2, g1, g2, h3, r1, r2, z⟩ := at_ [] s2 σ H2 ⟨ea, eb⟩ h2
      refine ⟨a, b, vs, ws, by rw [e1, e2], .inr ⟨.inl (.inl g1), .inl (.inl g2), q [(y, tm2), (x, tm1)] _ id _ s2 (ItzT Kf a b) H2 (hk y) ⟨fun pre s σ H _ h => h.dropMid pre, by rw [zipD_len]; show min da.length db.length ≤ _; omega, fun s σ H i hp hh hi => ?_, fun s σ H hp hh => ?_, fun pre s σ H i d v H' hp hh hd hy => ?_⟩ h2⟩⟩
      · obtain ⟨a', b', vs', ws', G', ω', e3, e4, g3, g4, _, r3, r4, _⟩ := at_ [] s σ H (hp' hp) hh
        rw [e1] at e3; cases e3; rw [e2] at e4; cases e4
        rw [zipD_len] at hi
        exact (walk_zipT (K := Kf) (a := a) (b := b) (xs := vs') (ys := ws') rfl).goes i H (by rw [← r3.length, ← r4.length]; exact hi) ⟨.inl (.inl g3), .inl (.inl g4)⟩
      · obtain ⟨a', b', vs', ws', G', ω', e3, e4, g3, g4, _, r3, r4, _⟩ := at_ [] s σ H (hp' hp) hh
        rw [e1] at e3; cases e3; rw [e2] at e4; cases e4
        rw [zipD_len, r3.length, r4.length]
        exact (walk_zipT (K := Kf) (a := a) (b := b) (xs := vs') (ys := ws') rfl).stops H ⟨.inl (.inl g3), .inl (.inl g4)⟩
      · obtain ⟨a', b', vs', ws', G', ω', e3, e4, g3, g4, h5, r3, r4, _⟩ := at_ pre s σ H (hp' hp) hh
        rw [e1] at e3; cases e3; rw [e2] at e4; cases e4
        obtain ⟨da', db', d1, d2, d3⟩ := zipD_get da db i d hd
        obtain ⟨w, w1, w2⟩ := r3.get d1
        obtain ⟨w', w1', w2'⟩ := r4.get d2
        have l1 := (List.getElem?_eq_some_iff.mp w1).1
        have l2 := (List.getElem?_eq_some_iff.mp w1').1
        obtain ⟨p, x1, x2, rfl, np, rfl, y1, y2⟩ := (walk_zipT (K := Kf) (a := a) (b := b) (xs := vs') (ys := ws') rfl).yields i H v H' (by omega) ⟨.inl (.inl g3), .inl (.inl g4)⟩ hy
        have y1' : vs'[i]? = some x1 := y1
        have y2' : ws'[i]? = some x2 := y2
        rw [w1] at y1'; cases y1'
        rw [w1'] at y2'; cases y2'
        rw [d3]
        exact h5.pushNewT np w2 w2'
    · rename_i da db
      cases ep
      have at_ : ∀ (pre : Tmp) s σ H, (valS s tm1 = some (.lst da) ∧ valS s tm2 = some (.lst db)) → Holds F (pre ++ ([(y, tm2), (x, tm1)] ++ tmp)) s σ H → ∃ a b vs ws G ω, x = .ref a ∧ y = .ref b ∧ Rd H a (.lst vs) ∧ Rd H b (.lst ws) ∧ Hd F G ω (pre ++ ([(y, tm2), (x, tm1)] ++ tmp)) s σ H ∧ Reps G da vs ∧ Reps G db ws ∧ da.length ≤ sizeLine := fun pre s σ H e ⟨G, ω, h⟩ => by
        have q1 := Tms.at (tm := tm2) (tmp := (x, tm1) :: tmp) pre h.tm
        have q2 := Tms.at (tm := tm1) (tmp := tmp) (pre ++ [(y, tm2)]) (by rw [List.append_assoc]; exact h.tm)
        obtain ⟨b, ws, e2, g2, z2, r2⟩ := h.repC q1 e.2
        obtain ⟨a, vs, e1, g1, z1, r1⟩ := h.repC q2 e.1
        exact ⟨a, b, vs, ws, G, ω, e1, e2, g1, g2, h, r1, r2, z1⟩
      have hp' : ∀ {s : State}, (valS s tm1 = valS s2 tm1 ∧ valS s tm2 = valS s2 tm2) → (valS s tm1 = some (.lst da) ∧ valS s tm2 = some (.lst db)) := fun h => ⟨h.1.trans ea, h.2.trans eb⟩
      obtain ⟨a, b, vs, ws, G, ω, e1, e2, g1, g2, h3, r1, r2, z⟩ := at_ [] s2 σ H2 ⟨ea, eb⟩ h2
      refine ⟨a, b, vs, ws, by rw [e1, e2], .inl ⟨.inl g1, .inl g2, q [(y, tm2), (x, tm1)] _ id _ s2 (Itz Kf a b) H2 (hk y) ⟨fun pre s σ H _ h => h.dropMid pre, by rw [zipD_len]; show min da.length db.length ≤ _; omega, fun s σ H i hp hh hi => ?_, fun s σ H hp hh => ?_, fun pre s σ H i d v H' hp hh hd hy => ?_⟩ h2⟩⟩
      · obtain ⟨a', b', vs', ws', G', ω', e3, e4, g3, g4, _, r3, r4, _⟩ := at_ [] s σ H (hp' hp) hh
        rw [e1] at e3; cases e3; rw [e2] at e4; cases e4
        rw [zipD_len] at hi
        exact (walk_zip (K := Kf) (a := a) (b := b) (xs := vs') (ys := ws') rfl).goes i H (by rw [← r3.length, ← r4.length]; exact hi) ⟨.inl g3, .inl g4⟩
      · obtain ⟨a', b', vs', ws', G', ω', e3, e4, g3, g4, _, r3, r4, _⟩ := at_ [] s σ H (hp' hp) hh
        rw [e1] at e3; cases e3; rw [e2] at e4; cases e4
        rw [zipD_len, r3.length, r4.length]
        exact (walk_zip (K := Kf) (a := a) (b := b) (xs := vs') (ys := ws') rfl).stops H ⟨.inl g3, .inl g4⟩
      · obtain ⟨a', b', vs', ws', G', ω', e3, e4, g3, g4, h5, r3, r4, _⟩ := at_ pre s σ H (hp' hp) hh
        rw [e1] at e3; cases e3; rw [e2] at e4; cases e4
        obtain ⟨da', db', d1, d2, d3⟩ := zipD_get da db i d hd
        obtain ⟨w, w1, w2⟩ := r3.get d1
        obtain ⟨w', w1', w2'⟩ := r4.get d2
        have l1 := (List.getElem?_eq_some_iff.mp w1).1
        have l2 := (List.getElem?_eq_some_iff.mp w1').1
        obtain ⟨p, x1, x2, rfl, np, rfl, y1, y2⟩ := (walk_zip (K := Kf) (a := a) (b := b) (xs := vs') (ys := ws') rfl).yields i H v H' (by omega) ⟨.inl g3, .inl g4⟩ hy
        have y1' : vs'[i]? = some x1 := y1
        have y2' : ws'[i]? = some x2 := y2
        rw [w1] at y1'; cases y1'
        rw [w1'] at y2'; cases y2'
        rw [d3]
        exact h5.pushNewT np w2 w2'
end
theorem pi_zipAK {X : Cx} {Kf : PySem.W.Frag} {e e2 : Expr} {ta : TA} {p pos tpos : Pos} {elts : List Expr} {kk : Nat} (hK : X.K = Kf) (hg : Gl X "zip") (hm : X.mg "zip" = none) (ha : PA X [e, e2] ta)
    (hs : starEach [e, e2] X.env = (false, eval e X.env) :: starEach [e2] X.env := by rfl) (hpl : (backTo pos (starEach [e2] X.env)).any (·.1) = false := by rfl) :
    PI X (.Tuple elts kk tpos) (.Call (.Name "zip" p) [e, e2] [] pos) (iZipA Kf ta) := by
  subst hK; exact RZ.pi_zipA hg hm ha hs hpl
end VL

namespace VL
open PySem L2
variable [EC]
/-! a list of its own put into a list of such -/
section
variable {F : Fc} {tmp : Tmp} {s1 : State} {σ : St} {H2 : Hp} {y : V} {t : T}
theorem Holds.setOwn {i n : Nat} {ts : List T} (h4 : Holds F ((y, .own t) :: tmp) s1 σ H2) (hi : s1[i]? = some (some (.ll ts))) (hlt : n < ts.length) :
    ∃ a vs, σ[i]? = some (some (.ref a)) ∧ H2 a = some (.lst vs) ∧ vs.length = ts.length ∧ Holds F tmp (s1.set i (some (.ll (ts.set n t)))) σ (upd H2 a (.lst (vs.set n y))) := by
    obtain ⟨G, ω, h4⟩ := h4
    obtain ⟨v, e1, a, vs', e2, ha', hw, z, r⟩ := h4.sl i _ hi
    subst e2
    have hil : i < s1.length := (List.getElem?_eq_some_iff.mp hi).1
    refine ⟨a, vs', e1, ha', r.len.symm, ?_⟩
    have h5 : Hd F G (rl ω (phiIn tmp.length i n)) tmp (s1.set i none) σ H2 := h4.rl _ _ σ tmp (by simp [h4.len]) (fun k u e => by
      by_cases hk : i = k
      · subst hk; rw [List.getElem?_set_self hil] at e; cases e
      · rw [List.getElem?_set_ne hk] at e
        obtain ⟨v', b1, b2⟩ := h4.sl k u e
        have hk' : ¬ k = i := fun z => hk z.symm
        refine ⟨v', b1, Own.rl b2 fun x => ?_⟩
        cases x <;> simp [phiIn, hk']) (Tms.rl tmp (fun j x hj => by
        have : ¬ j = tmp.length := by omega
        simp [phiIn, this]) h4.tm.2) h4.pn
    have hw5 : (rl ω (phiIn tmp.length i n)) a = some [0, i] := rl_of hw rfl
    have hwr : ∀ {q : Lab} {t v o}, pre q [0, i] = false → Own G H2 (rl ω (phiIn tmp.length i n)) q t v → Own G (upd H2 a o) (rl ω (phiIn tmp.length i n)) q t v := fun n o => Own.wrO hw5 n o
    refine ⟨G, _, h5.wr hw5 _ (by simp) (fun k u e => ?_) (Tms.wrO hw5 tmp (fun j hj => by simp [pre]) h5.tm)⟩
    by_cases hk : i = k
    · subst hk
      rw [List.getElem?_set_self hil] at e
      cases e
      refine ⟨_, e1, a, vs'.set n y, rfl, upd_same, hw5, by simpa using z, Owns.of (by simp [r.len]) fun j t' v' a1 a2 => ?_⟩
      rw [Nat.zero_add]
      refine hwr (by simp [pre]) ?_
      rw [List.getElem?_set] at a1 a2
      by_cases hj : n = j
      · subst hj
        rw [if_pos rfl, if_pos hlt] at a1
        rw [if_pos rfl, if_pos (by rw [← r.len]; exact hlt)] at a2
        cases a1; cases a2
        exact Own.rl h4.tm.1 fun x => by simp [phiIn]
      · rw [if_neg hj] at a1 a2
        obtain ⟨w, b1, b2⟩ := r.get a1
        rw [a2] at b1; cases b1
        rw [Nat.zero_add] at b2
        have hj' : ¬ j = n := fun z => hj z.symm
        exact Own.rl b2 fun x => by simp [phiIn, hj']
    · rw [List.getElem?_set_ne hk] at e
      obtain ⟨v', b1, b2⟩ := h5.sl k u (by rw [List.getElem?_set_ne hk]; exact e)
      exact ⟨v', b1, Own.wrO hw5 (by simp [pre]; exact fun z => hk z.symm) b2⟩
end
section
variable {R : Type} {F : Fc} {tmp : Tmp} {s : State} {m : Res R} {N : Rn R} {Rt : Rr R} {te ti : TE}
/-- x[e] = a list of its own -/
theorem rs_setLL {i : Nat} (h : RD F tmp s te m (fun tm1 s1 m1 => ∃ l, tm1 = .own (.l l) ∧ (∃ ts, s1[i]? = some (some (.ll ts))) ∧ ∀ v x, RD F ((x, .ali i) :: (v, .own (.l l)) :: tmp) s1 ti m1 (fun tm2 s2 m2 => ∃ (d : D) (ls : List (List D)) (k : Nat → Res R), valS s2 tm2 = some d ∧ s2[i]? = some (some (.ll (ls.map T.l))) ∧ m2 = ob (ixNd ls.length d) k ∧
      ∀ j, N (s2.set i (some (.ll ((ls.set j l).map T.l)))) (k j)))) : RS F tmp s m (tAsg te (gSub (tVar i) ti rSetL)) N Rt := fun σ H De hh nf eo nx rt =>
  h σ H _ hh nf eo fun tm1 s1 v H1 ⟨l, e1, ⟨ts0, hi0⟩, h2⟩ h1 => by
    subst e1
    obtain ⟨x, ex⟩ : ∃ x, σ[i]? = some (some x) := by
      obtain ⟨G, ω, h3⟩ := h1
      obtain ⟨v', e, _⟩ := h3.sl i _ hi0
      exact ⟨v', e⟩
    refine ⟨x, ex, h2 v x σ H1 _ (by obtain ⟨G, ω, h3⟩ := h1; exact ⟨G, ω, { h3 with tm := ⟨ex, h3.tm⟩ }⟩) nf eo fun tm2 s2 y H2 ⟨d, ls, k, ed, hi, em, hk⟩ h3 => ?_⟩
    obtain ⟨j, ej, em'⟩ := ob_cases (by rw [← em]; exact nf)
    have ey : j < ls.length ∧ ∃ z, y = .int z ∧ ixN ls.length z = some j := by
      obtain ⟨G, ω, h4⟩ := h3
      have r := (h4.repC h4.tm.1 ed).toR h4.gH
      exact ixNd_ok ej r
    obtain ⟨jl, z, rfl, hz⟩ := ey
    obtain ⟨a, vs, e2, ha, hl, h5⟩ := Holds.setOwn (n := j) h3.pop.pop hi (by simpa using jl)
    rw [ex] at e2; cases e2
    refine ⟨a, vs, z, j, rfl, rfl, ha, by rw [hl, List.length_map]; exact hz, ?_⟩
    rw [show (ls.map T.l).set j (.l l) = (ls.set j l).map T.l from by rw [List.map_set]] at h5
    exact nx _ σ _ (by rw [em, em']; exact hk j) h5
end
end VL

namespace VL
open PySem L2
/-! own dicts of own lists -/
def dlT (l : List (D × D)) : T := .dl (l.map Prod.fst) (l.map fun p => optT p.2)
def dlO (l : List (D × D)) (j : Nat) (v : V) : T := .dl (l.map Prod.fst) ((l.map fun p => optT p.2).set j (.hole v))
def dputN (l : List (D × D)) (d v : D) : Option (List (D × D)) := if (keyK d).isSome = true ∧ l.length < 16777216 ∧ (findD l d).isNone = true then some (l ++ [(d, v)]) else none
def idxD : List (D × D) → D → Option Nat
  | [], _ => none
  | kv :: r, d => if D.eqv kv.1 d = true then some 0 else (idxD r d).map (· + 1)
def takeD (l : List (D × D)) (d : D) : Option (Nat × D) := if (keyK d).isSome = true then (idxD l d).bind fun j => (l[j]?).map fun p => (j, p.2) else none
def take2D (l : List (D × D)) (j : Nat) (d : D) : Option D := (takeD l d).bind fun p => if p.1 = j then none else some p.2
theorem zip_parts : ∀ l : List (D × D), (l.map Prod.fst).zip (l.map Prod.snd) = l
  | [] => rfl
  | p :: r => by rw [List.map_cons, List.map_cons, List.zip_cons_cons, zip_parts r]
variable [EC]
theorem ers_dl (l : List (D × D)) : T.ers (l.map fun p => optT p.2) = l.map Prod.snd := by
  rw [ers_eq, List.map_map]
  exact List.map_congr_left fun p _ => optT_er p.2
theorem dlT_er (l : List (D × D)) : (dlT l).er = .dct false l := by
  show D.dct false _ = _
  rw [ers_dl, zip_parts]
theorem valS_optT {s : State} (d : D) : valS s (.own (optT d)) = some d := by cases d <;> rfl
theorem valT_optT {s : State} (d : D) : valT s (.own (optT d)) = some d := congrArg some (optT_er d)
theorem dl_idx {kk : Key} : ∀ (l : List (D × D)) (kvs : List (Key × V)) (j : Nat), l.map Prod.fst = (kvs.map fun q => kD q.1) → idxD l (kD kk) = some j → ∃ p v, l[j]? = some p ∧ (kvs.map Prod.snd)[j]? = some v ∧ valV kvs kk = some v
  | [], _, j, _, h => by cases h
  | (k, c) :: r, [], j, e, _ => by cases e
  | (k, c) :: r, (k', v) :: q, j, e, h => by
    simp only [List.map_cons, List.cons.injEq] at e
    obtain ⟨e1, e2⟩ := e
    subst e1
    unfold idxD at h
    rw [kD_eqv] at h
    unfold valV
    rw [List.find?_cons]
    by_cases ek : k' = kk
    · rw [decide_eq_true ek] at h ⊢
      rw [if_pos rfl] at h
      cases h
      exact ⟨_, v, rfl, rfl, rfl⟩
    · rw [decide_eq_false ek] at h ⊢
      rw [if_neg (by decide)] at h
      cases e3 : idxD r (kD kk) with
      | none => rw [e3] at h; cases h
      | some j' =>
        rw [e3] at h
        cases h
        obtain ⟨p, v', a1, a2, a3⟩ := dl_idx r q j' e2 e3
        exact ⟨p, v', by simpa using a1, by simpa using a2, a3⟩
theorem dl_find : ∀ (l : List (D × D)) (d c : D), findD l d = some c → ∃ j k, idxD l d = some j ∧ l[j]? = some (k, c)
  | [], _, _, h => by cases h
  | (k, v) :: r, d, c, h => by
    unfold findD at h
    rw [List.find?_cons] at h
    unfold idxD
    cases e : D.eqv k d with
    | true =>
      rw [show D.eqv (k, v).1 d = true from e] at h
      cases h
      exact ⟨0, k, rfl, rfl⟩
    | false =>
      rw [show D.eqv (k, v).1 d = false from e] at h
      obtain ⟨j, k', a1, a2⟩ := dl_find r d c h
      exact ⟨j + 1, k', by rw [a1]; rfl, by simpa using a2⟩
theorem dl_none {kk : Key} : ∀ (l : List (D × D)) (kvs : List (Key × V)), l.map Prod.fst = (kvs.map fun q => kD q.1) → findD l (kD kk) = none → valV kvs kk = none
  | [], [], _, _ => rfl
  | [], _ :: _, e, _ => by cases e
  | (k, c) :: r, [], e, _ => by cases e
  | (k, c) :: r, (k', v) :: q, e, h => by
    simp only [List.map_cons, List.cons.injEq] at e
    obtain ⟨e1, e2⟩ := e
    subst e1
    unfold findD at h
    rw [List.find?_cons] at h
    unfold valV
    rw [List.find?_cons]
    by_cases ek : k' = kk
    · rw [show D.eqv (kD k', c).1 (kD kk) = true by rw [kD_eqv, decide_eq_true ek]] at h
      cases h
    · rw [show D.eqv (kD k', c).1 (kD kk) = false by rw [kD_eqv, decide_eq_false ek]] at h
      rw [decide_eq_false ek]
      exact dl_none r q e2 h
def phiHf (n : Nat) : Lab → Option Lab
  | 1 :: j :: i :: x => if j = n then some (4 :: i :: x) else some (1 :: j :: i :: x)
  | l => some l
def phiDs (n : Nat) : Lab → Option Lab
  | 1 :: j :: x => if j = n + 2 then some (1 :: n :: 0 :: x) else some (1 :: j :: x)
  | l => some l
section
variable {F : Fc} {tmp : Tmp} {s : State} {σ : St} {H : Hp} {v : V} {t : T}
/-- the lists are frozen, the dict is still its own -/
theorem Holds.halfTop {l : List (D × D)} (h : Holds F ((v, .own (dlT l)) :: tmp) s σ H) : Holds F ((v, .own (.dc false l)) :: tmp) s σ H := by
  obtain ⟨G, ω, h⟩ := h
  obtain ⟨a, kvs, e, hw, ha, ek, r⟩ := h.tm.1
  have h5 : Hd F G (rl ω (phiHf tmp.length)) tmp s σ H := h.pop.rl _ s σ tmp h.len (fun i u e => by
    obtain ⟨v', e1, e2⟩ := h.sl i u e
    exact ⟨v', e1, Own.rl e2 fun x => by simp [phiHf]⟩) (Tms.rl tmp (fun j x hj => by
      have : ¬ j = tmp.length := by omega
      cases x <;> simp [phiHf, this]) h.tm.2) h.pn
  have hw5 : rl ω (phiHf tmp.length) a = some [1, tmp.length] := rl_of hw rfl
  have r5 : Owns G H (rl ω (phiHf tmp.length)) [4] 0 (l.map fun p => optT p.2) (kvs.map Prod.snd) := Owns.of r.len fun j t w a1 a2 => by
    obtain ⟨w', b1, b2⟩ := r.get a1
    rw [a2] at b1; cases b1
    rw [Nat.zero_add] at b2 ⊢
    exact Own.rl b2 fun x => by simp [phiHf]
  have sG := frzG_same h5 [4]
  refine ⟨_, _, h5.frz [4] s σ _ h5.len (fun i u e => ?_) ⟨⟨a, kvs, e, frzW_of hw5 rfl, ha, ?_⟩, Tms.frzOther sG tmp (fun j x hj => by simp [pre]) h5.tm⟩ h5.pn⟩
  · obtain ⟨v', e1, e2⟩ := h5.sl i u e
    exact ⟨v', e1, Own.frzOther sG (fun x => by simp [pre]) e2⟩
  · have := Owns.rep sG [4] 0 _ _ (fun a x e o ho => by rw [frzG_in e (pre_app [4] x)]; exact ho) r5
    rw [ers_dl] at this
    have := RepK.ofZip kvs _ this
    rw [← ek, zip_parts] at this
    exact this
/-- one of an owned dict's lists is taken out -/
theorem Holds.takeOutD (h : Holds F tmp s σ H) {i j : Nat} {ks : List D} {ts : List T} (hi : s[i]? = some (some (.dl ks ts))) (hj : ts[j]? = some t) :
    ∃ a kvs v, σ[i]? = some (some (.ref a)) ∧ H a = some (.dK kvs) ∧ ks = (kvs.map fun q => kD q.1) ∧ (kvs.map Prod.snd)[j]? = some v ∧ Holds F ((v, .own t) :: tmp) (s.set i (some (.dl ks (ts.set j (.hole v))))) σ H := by
  obtain ⟨G, ω, h⟩ := h
  obtain ⟨u, e1, a, kvs, e2, hw, ha, ek, r⟩ := h.sl i _ hi
  subst e2
  obtain ⟨v, e3, e4⟩ := r.get hj
  rw [Nat.zero_add] at e4
  have hil : i < s.length := (List.getElem?_eq_some_iff.mp hi).1
  have hjl : j < ts.length := (List.getElem?_eq_some_iff.mp hj).1
  refine ⟨a, kvs, v, e1, ha, ek, e3, G, _, h.rl (phiOut tmp.length i j) _ σ _ (by simp [h.len]) (fun k u e => ?_) ⟨?_, Tms.rl tmp (fun k x hk => ?_) h.tm⟩ h.pn⟩
  · by_cases hk : i = k
    · subst hk
      rw [List.getElem?_set_self hil] at e
      cases e
      refine ⟨_, e1, a, kvs, rfl, rl_of hw rfl, ha, ek, Owns.of (by simpa using r.len) fun k t' v' a1 a2 => ?_⟩
      rw [List.getElem?_set] at a1
      rw [Nat.zero_add]
      by_cases hk : j = k
      · subst hk
        rw [if_pos rfl, if_pos hjl] at a1
        cases a1
        rw [e3] at a2; cases a2
        exact rfl
      · rw [if_neg hk] at a1
        obtain ⟨w, b1, b2⟩ := r.get a1
        rw [a2] at b1; cases b1
        rw [Nat.zero_add] at b2
        have hk' : ¬ k = j := fun z => hk z.symm
        exact Own.rl b2 fun x => by simp [phiOut, hk']
    · rw [List.getElem?_set_ne hk] at e
      obtain ⟨v', b1, b2⟩ := h.sl k u e
      have hk' : ¬ k = i := fun z => hk z.symm
      refine ⟨v', b1, Own.rl b2 fun x => ?_⟩
      cases x <;> simp [phiOut, hk']
  · exact Own.rl e4 fun x => by simp [phiOut]
  · have : ¬ k = tmp.length := by omega
    simp [phiOut, this]
/-- and put back -/
theorem Holds.putInD (pre : Tmp) (h : Holds F (pre ++ ((v, .own t) :: tmp)) s σ H) {i j : Nat} {ks : List D} {ts : List T} (hi : s[i]? = some (some (.dl ks ts))) (hj : ts[j]? = some (.hole v)) :
    Holds F (pre ++ tmp) (s.set i (some (.dl ks (ts.set j t)))) σ H := by
  obtain ⟨G, ω, h⟩ := h
  obtain ⟨u, e1, a, kvs, e2, hw, ha, ek, r⟩ := h.sl i _ hi
  subst e2
  obtain ⟨v', e3, e4⟩ := r.get hj
  cases (show v' = v from e4)
  have hil : i < s.length := (List.getElem?_eq_some_iff.mp hi).1
  have hjl : j < ts.length := (List.getElem?_eq_some_iff.mp hj).1
  have ok : Own G H ω [1, tmp.length] t v := Tms.at (tm := .own t) pre h.tm
  have h0 : Tms G H ω σ tmp := (Tms.tail pre h.tm).2
  refine ⟨G, rl ω (fun l => (phiIn tmp.length i j l).bind (phiMid tmp.length 1)), h.rl _ _ σ _ (by simp [h.len]) (fun k u e => ?_) ?_ h.pn⟩
  · by_cases hk : i = k
    · subst hk
      rw [List.getElem?_set_self hil] at e
      cases e
      refine ⟨_, e1, a, kvs, rfl, rl_of hw rfl, ha, ek, Owns.of (by simpa using r.len) fun k t' v2 a1 a2 => ?_⟩
      rw [List.getElem?_set] at a1
      rw [Nat.zero_add]
      by_cases hk : j = k
      · subst hk
        rw [if_pos rfl, if_pos hjl] at a1
        cases a1
        rw [e3] at a2; cases a2
        exact Own.rl ok fun x => by simp [phiIn, phiMid]
      · rw [if_neg hk] at a1
        obtain ⟨w, b1, b2⟩ := r.get a1
        rw [a2] at b1; cases b1
        rw [Nat.zero_add] at b2
        have hk' : ¬ k = j := fun z => hk z.symm
        exact Own.rl b2 fun x => by simp [phiIn, phiMid, hk']
    · rw [List.getElem?_set_ne hk] at e
      obtain ⟨v', b1, b2⟩ := h.sl k u e
      have hk' : ¬ k = i := fun z => hk z.symm
      refine ⟨v', b1, Own.rl b2 fun x => ?_⟩
      cases x <;> simp [phiIn, phiMid, hk']
  · refine Tms.rlMid (tmp := (v, .own t) :: tmp) (tmp' := tmp) (Tms.rl tmp (fun k x hk => ?_) h0) (by simp) pre (fun k x hk => ?_) h.tm
    · have : ¬ k = tmp.length := by omega
      simp [phiIn, phiMid, this, hk]
    · have h1 : ¬ tmp.length + 1 + k = tmp.length := by omega
      have h2 : ¬ tmp.length + 1 + k < tmp.length := by omega
      have h3 : ¬ tmp.length + 1 + k < tmp.length + 1 := by omega
      have h4 : tmp.length + 1 + k - 1 = tmp.length + k := by omega
      simp [phiIn, phiMid, h1, h2, h3, h4]
theorem Holds.putBack {i j : Nat} {l : List (D × D)} {k c : D} (pre : Tmp) (h : Holds F (pre ++ ((v, .own (optT c)) :: tmp)) s σ H) (hi : s[i]? = some (some (dlO l j v))) (hj : l[j]? = some (k, c)) : Holds F (pre ++ tmp) (s.set i (some (dlT l))) σ H := by
  have hjl : j < l.length := (List.getElem?_eq_some_iff.mp hj).1
  have := Holds.putInD pre h hi (by rw [List.getElem?_set_self (by simpa using hjl)])
  rw [List.set_set] at this
  have e : (l.map fun p => optT p.2).set j (optT c) = l.map fun p => optT p.2 := by
    refine List.ext_getElem? fun n => ?_
    rw [List.getElem?_set]
    split
    · rename_i hn
      subst hn
      rw [if_pos (by simpa using hjl), List.getElem?_map, hj]; rfl
    · rfl
  rw [e] at this
  exact this
/-- a new list of its own goes in -/
theorem Holds.wrDl {c : List D} {d : D} {x y : V} (h : Holds F ((y, .own (.f d)) :: (x, .own (.l c)) :: tmp) s σ H) {i : Nat} {l l' : List (D × D)} (hi : s[i]? = some (some (dlT l))) (e : dputN l d (.lst c) = some l') :
    ∃ a H', σ[i]? = some (some (.ref a)) ∧ DPut H a y x H' ∧ Holds F tmp (s.set i (some (dlT l'))) σ H' := by
  obtain ⟨G, ω, h⟩ := h
  unfold dputN at e
  split at e
  · rename_i ok
    cases e
    obtain ⟨ok1, ok2, ok3⟩ := ok
    have ry : Rep G d y := h.tm.1
    have h4 := h.pop
    obtain ⟨u, e1, a, kvs, e2, hw, ha, ek, r⟩ := h.sl i _ hi
    subst e2
    obtain ⟨kk, hk⟩ := Option.isSome_iff_exists.mp ok1
    have hd := keyK_kD hk
    have hlen : l.length = kvs.length := by simpa using congrArg List.length ek
    have hno : valV kvs kk = none := dl_none l kvs ek (by rw [← hd]; simpa using ok3)
    have hil : i < s.length := (List.getElem?_eq_some_iff.mp hi).1
    have h5 : Hd F G (rl ω (phiIn tmp.length i l.length)) tmp (s.set i none) σ H := h4.rl _ _ σ tmp (by simp [h4.len]) (fun k u e => by
      by_cases hk : i = k
      · subst hk; rw [List.getElem?_set_self hil] at e; cases e
      · rw [List.getElem?_set_ne hk] at e
        obtain ⟨v', b1, b2⟩ := h4.sl k u e
        have hk' : ¬ k = i := fun z => hk z.symm
        refine ⟨v', b1, Own.rl b2 fun x => ?_⟩
        cases x <;> simp [phiIn, hk']) (Tms.rl tmp (fun j x hj => by
        have : ¬ j = tmp.length := by omega
        simp [phiIn, this]) h4.tm.2) h4.pn
    have hw5 : (rl ω (phiIn tmp.length i l.length)) a = some [0, i] := rl_of hw rfl
    refine ⟨a, upd H a (.dK (kvs ++ [(kk, x)])), e1, ?_, ?_⟩
    · have := DPut.k (v := x) (k := kk) ha (by rw [← hlen, sizeLine_eq]; exact ok2)
      rw [putK_new x hno] at this
      rw [rep_key hk (Rep.mono h.gH _ _ ry)]
      exact this
    refine ⟨G, _, h5.wr hw5 _ (by simp) (fun k u e => ?_) (Tms.wrO hw5 tmp (fun j hj => by simp [pre]) h5.tm)⟩
    by_cases hk : i = k
    · subst hk
      rw [List.getElem?_set_self hil] at e
      cases e
      refine ⟨_, e1, a, kvs ++ [(kk, x)], rfl, hw5, upd_same, by simp [ek, hd], Owns.of (by simp [hlen]) fun j t' v' a1 a2 => ?_⟩
      rw [Nat.zero_add]
      refine Own.wrO hw5 (by simp [pre]) ?_
      rw [List.map_append] at a1 a2
      by_cases hj : j < l.length
      · rw [List.getElem?_append_left (by simpa using hj)] at a1
        rw [List.getElem?_append_left (by simpa [← hlen] using hj)] at a2
        obtain ⟨w, b1, b2⟩ := r.get a1
        rw [a2] at b1; cases b1
        rw [Nat.zero_add] at b2
        have hj' : ¬ j = l.length := by omega
        exact Own.rl b2 fun x => by simp [phiIn, hj']
      · have hj2 : j = l.length := by
          have := (List.getElem?_eq_some_iff.mp a1).1
          simp at this
          omega
        subst hj2
        rw [List.getElem?_append_right (by simp)] at a1
        rw [List.getElem?_append_right (by simp [hlen])] at a2
        simp [hlen] at a1 a2
        subst a1; subst a2
        exact Own.rl (t := .l c) h4.tm.1 fun x => by simp [phiIn]
    · rw [List.getElem?_set_ne hk] at e
      obtain ⟨v', b1, b2⟩ := h5.sl k u (by rw [List.getElem?_set_ne hk]; exact e)
      exact ⟨v', b1, Own.wrO hw5 (by simp [pre]; exact fun z => hk z.symm) b2⟩
  · cases e
theorem Holds.dlGet {l : List (D × D)} {d : D} {x y : V} {i j : Nat} {tm1 : TM} (h : Holds F ((y, tm1) :: (x, .ali i) :: tmp) s σ H) (hi : s[i]? = some (some (dlT l))) (ed : valS s tm1 = some d) (ok : (keyK d).isSome = true) {k c : D} (ej : idxD l d = some j) (ec : l[j]? = some (k, c)) :
    ∃ a v, x = .ref a ∧ DGet H a y (some v) ∧ Holds F ((v, .own (optT c)) :: tmp) (s.set i (some (dlO l j v))) σ H := by
  have ex : σ[i]? = some (some x) := by obtain ⟨G, ω, h6⟩ := h; exact h6.tm.2.1
  have ry : Rep H d y := by obtain ⟨G, ω, h6⟩ := h; exact (h6.repC h6.tm.1 ed).toR h6.gH
  obtain ⟨kk, hk⟩ := Option.isSome_iff_exists.mp ok
  obtain ⟨a, kvs, v, e1, ha, ek, hv, h4⟩ := h.pop.pop.takeOutD hi (j := j) (t := optT c) (by rw [List.getElem?_map, ec]; rfl)
  rw [ex] at e1; cases e1
  obtain ⟨p, v', b1, b2, b3⟩ := dl_idx l kvs j ek (by rw [← keyK_kD hk]; exact ej)
  rw [hv] at b2; cases b2
  rw [rep_key hk ry]
  exact ⟨a, v, rfl, .inl ⟨kvs, kk, .inl ha, rfl, b3.symm⟩, h4⟩
theorem Holds.dlGet2 {l : List (D × D)} {d : D} {w x y : V} {i j j0 : Nat} {tm1 : TM} (h : Holds F ((y, tm1) :: (x, .ali i) :: tmp) s σ H) (hi : s[i]? = some (some (dlO l j0 w))) (ne : j ≠ j0) (ed : valS s tm1 = some d) (ok : (keyK d).isSome = true) {k c : D} (ej : idxD l d = some j) (ec : l[j]? = some (k, c)) :
    ∃ a v t', x = .ref a ∧ DGet H a y (some v) ∧ Holds F ((v, .own (optT c)) :: tmp) (s.set i (some t')) σ H := by
  have ex : σ[i]? = some (some x) := by obtain ⟨G, ω, h6⟩ := h; exact h6.tm.2.1
  have ry : Rep H d y := by obtain ⟨G, ω, h6⟩ := h; exact (h6.repC h6.tm.1 ed).toR h6.gH
  obtain ⟨kk, hk⟩ := Option.isSome_iff_exists.mp ok
  obtain ⟨a, kvs, v, e1, ha, ek, hv, h4⟩ := h.pop.pop.takeOutD hi (j := j) (t := optT c) (by rw [List.getElem?_set_ne (fun z => ne z.symm), List.getElem?_map, ec]; rfl)
  rw [ex] at e1; cases e1
  obtain ⟨p, v', b1, b2, b3⟩ := dl_idx l kvs j ek (by rw [← keyK_kD hk]; exact ej)
  rw [hv] at b2; cases b2
  rw [rep_key hk ry]
  exact ⟨a, v, _, rfl, .inl ⟨kvs, kk, .inl ha, rfl, b3.symm⟩, h4⟩
end
section
variable {R : Type} {F : Fc} {tmp : Tmp} {s : State} {m : Res R} {K : Rs R} {N : Rn R} {Rt : Rr R} {ta tb te tk ty tv td : TE} {Kf : PySem.W.Frag}
theorem rd_fzD {te : TE} (h : RD F tmp s te m (fun tm s1 m1 => ∃ d, tm = .own (dlT d) ∧ K (.own (.f (.dct false d))) s1 m1)) : RD F tmp s te m K := rd_fz fun σ H Q hh nf eo q =>
  h σ H Q hh nf eo fun tm s' v H' ⟨d, e, hk⟩ h1 => q tm s' v H' ⟨dlT d, e, by rw [dlT_er]; exact hk⟩ h1
theorem rd_dlD {te : TE} (h : RD F tmp s te m (fun tm s1 m1 => ∃ d, tm = .own (dlT d) ∧ K (.own (.dc false d)) s1 m1)) : RD F tmp s te m K := fun σ H Q hh nf eo q =>
  h σ H Q hh nf eo fun tm s' v H' ⟨d, e, hk⟩ h1 => by
    subst e
    exact q _ _ v H' hk h1.halfTop
/-- {key: a list of its own} -/
theorem rd_disp1O {tk tv : TE} (h : ∀ p, RD F ((p, .own (.dc false [])) :: tmp) s tk m (fun tm1 s1 m1 => ∀ x, RD F ((x, tm1) :: (p, .own (.dc false [])) :: tmp) s1 tv m1 (fun tm2 s2 m2 => ∃ dk dv k, tm1 = .own (.f dk) ∧ tm2 = .own (.l dv) ∧ m2 = (if (keyK dk).isSome = true then k else .fail) ∧ K (.own (dlT [(dk, .lst dv)])) s2 k))) : RD F tmp s (tDisp [(tk, tv)]) m K := fun σ H Q hh nf eo q => fun p np => by
  have hn : Holds F ((.ref p, .own (.dc false [])) :: tmp) s σ (upd H p (.dK [])) := by
    obtain ⟨G, ω, h⟩ := hh
    exact ⟨G, _, h.newO np ⟨p, [], rfl, by simp, upd_same, rfl⟩⟩
  refine h (.ref p) σ _ _ hn nf eo fun tm1 s1 x H1 h2 h1 => h2 x σ H1 _ h1 nf eo fun tm2 s2 y H2 ⟨dk, dv, k, e1, e2, em, hk⟩ h3 => ?_
  subst e1; subst e2
  have hok : (keyK dk).isSome = true := by
    refine Decidable.byContradiction fun z => ?_
    rw [if_neg z] at em
    exact nf em
  rw [if_pos hok] at em
  obtain ⟨kk, hkk⟩ := Option.isSome_iff_exists.mp hok
  obtain ⟨G, ω, h4⟩ := h3
  have ry : Own G H2 ω [1, tmp.length + 2] (.l dv) y := h4.tm.1
  have rx := h4.tm.2.1
  obtain ⟨a, kvs, e3, hw, ha, hr⟩ := h4.tm.2.2.1
  cases e3
  cases (show kvs = [] from hr)
  have h5 : Hd F G (rl ω (phiDs tmp.length)) tmp s2 σ H2 := h4.pop.pop.pop.rl _ s2 σ tmp h4.len (fun i u e => by
    obtain ⟨v', e1, e2⟩ := h4.sl i u e
    exact ⟨v', e1, Own.rl e2 fun x => by simp [phiDs]⟩) (Tms.rl tmp (fun j x hj => by
      have : ¬ j = tmp.length + 2 := by omega
      simp [phiDs, this]) h4.tm.2.2.2) h4.pn
  have hw5 : rl ω (phiDs tmp.length) p = some [1, tmp.length] := rl_of hw (by simp [phiDs])
  have own : Own G (upd H2 p (.dK (mergeK [] [(kk, y)]))) (rl ω (phiDs tmp.length)) [1, tmp.length] (dlT [(dk, .lst dv)]) (.ref p) :=
    ⟨p, mergeK [] [(kk, y)], rfl, hw5, upd_same, by show [dk] = [kD kk]; rw [keyK_kD hkk], y, [], rfl, Own.wrO hw5 (by simp [pre]) (Own.rl (t := .l dv) ry fun x => by simp [phiDs]), rfl⟩
  refine ⟨ha, [(kk, y)], by rw [show x = kV kk from rep_key hkk (Rep.mono h4.gH _ _ rx)]; rfl, by show 1 ≤ 15; omega, ?_⟩
  refine q _ s2 _ _ (by rw [em]; exact hk) ⟨G, _, Hd.wr (tmp' := (.ref p, .own (dlT [(dk, .lst dv)])) :: tmp) h5 hw5 _ rfl (fun j u e => ?_) ⟨own, Tms.wrO hw5 tmp (fun j hj => ?_) h5.tm⟩⟩
  · obtain ⟨v', b1, b2⟩ := h5.sl j u e
    exact ⟨v', b1, Own.wrO hw5 (by simp [pre]) b2⟩
  · have : ¬ j = tmp.length := by omega
    simp [pre, this]
theorem din_coreT {b : Bool} {σ : St} {H1 : Hp} {tm1 tm2 : TM} {s2 : State} {x y : V} {d a : D} (h3 : Holds F ((x, tm2) :: (y, tm1) :: tmp) s2 σ H1) (ed : valT s2 tm1 = some d) (ea : valT s2 tm2 = some a) (ec : dinD d a = some b) : ∃ p o, x = .ref p ∧ DGet H1 p y o ∧ o.isSome = b := by
  obtain ⟨G, ω, h3⟩ := h3
  have rd := h3.repT h3.tm.2.1 ed
  have ra := h3.repT h3.tm.1 ea
  cases a <;> try (cases ec; done)
  simp only [dinD] at ec
  split at ec
  · rename_i ok
    cases ec
    obtain ⟨p, o, e1, g, w⟩ := dget_any (Same.refl H1) (Rep.toC (Same.refl _) ra) (Rep.toC (Same.refl _) rd) ok
    refine ⟨p, o, e1, g, ?_⟩
    rcases w with ⟨w1, w2⟩ | ⟨c', v, w1, w2, w3⟩ <;> (rw [w1, w2]; rfl)
  · cases ec
theorem rt_dinT {K : Bool → State → Res R → Prop} (h : RD F tmp s ty m (fun tm1 s1 m1 => ∀ y, RD F ((y, tm1) :: tmp) s1 td m1 (fun tm2 s2 m2 => ∃ d a k, valT s2 tm1 = some d ∧ valT s2 tm2 = some a ∧ m2 = ob (dinD d a) k ∧ ∀ c, K c s2 (k c)))) : RT F tmp s m (tB (tDIn ty td)) K := fun σ H Q hh nf eo q =>
  h σ H _ hh nf eo fun tm1 s1 y H1 h2 h1 => h2 y σ H1 _ h1 nf eo fun tm2 s2 x H2 ⟨d, a, k, ed, ea, em, hk⟩ h3 => by
    obtain ⟨c, ec, em'⟩ := ob_cases (by rw [← em]; exact nf)
    obtain ⟨p, o, e1, g, e2⟩ := din_coreT h3 ed ea ec
    exact ⟨p, o, e1, g, c, by rw [e2], q _ s2 H2 (by rw [em, em']; exact hk _) h3.pop.pop⟩
theorem rt_dnotinT {K : Bool → State → Res R → Prop} (h : RD F tmp s ty m (fun tm1 s1 m1 => ∀ y, RD F ((y, tm1) :: tmp) s1 td m1 (fun tm2 s2 m2 => ∃ d a k, valT s2 tm1 = some d ∧ valT s2 tm2 = some a ∧ m2 = ob (dinD d a) k ∧ ∀ c, K (!c) s2 (k c)))) : RT F tmp s m (tB (tDNotIn ty td)) K := fun σ H Q hh nf eo q =>
  h σ H _ hh nf eo fun tm1 s1 y H1 h2 h1 => h2 y σ H1 _ h1 nf eo fun tm2 s2 x H2 ⟨d, a, k, ed, ea, em, hk⟩ h3 => by
    obtain ⟨c, ec, em'⟩ := ob_cases (by rw [← em]; exact nf)
    obtain ⟨p, o, e1, g, e2⟩ := din_coreT h3 ed ea ec
    exact ⟨p, o, e1, g, !c, by rw [e2], q _ s2 H2 (by rw [em, em']; exact hk _) h3.pop.pop⟩
theorem ali_of {i : Nat} {σ : St} {H : Hp} {t : T} (h : Holds F tmp s σ H) (hi : s[i]? = some (some t)) : ∃ x, σ[i]? = some (some x) ∧ Holds F ((x, .ali i) :: tmp) s σ H := by
  obtain ⟨G, ω, h3⟩ := h
  obtain ⟨v', e, _⟩ := h3.sl i _ hi
  exact ⟨v', e, G, ω, { h3 with tm := ⟨e, h3.tm⟩ }⟩
theorem dgetD_dl {l : List (D × D)} {d c : D} (h : dgetD (.dct false l) d = some c) : (keyK d).isSome = true ∧ ∃ j k, idxD l d = some j ∧ l[j]? = some (k, c) := by
  simp only [dgetD] at h
  split at h
  · rename_i ok
    exact ⟨ok, dl_find _ _ _ h⟩
  · cases h
/-- x[k] + e -/
theorem rd_dlCat {i : Nat} {l0 : List (D × D)} (hs : s[i]? = some (some (dlT l0)))
    (h : ∀ x, RD F ((x, .ali i) :: tmp) s tk m (fun tm1 s1 m1 => ∃ l d k, s1[i]? = some (some (dlT l)) ∧ valS s1 tm1 = some d ∧ m1 = ob (dgetD (.dct false l) d) k ∧ ∀ t j v, RD F ((v, .own (optT t)) :: tmp) (s1.set i (some (dlO l j v))) tb (k t) (fun tm2 s2 m2 => ∃ b k2, s2[i]? = some (some (dlO l j v)) ∧ valS s2 tm2 = some b ∧ m2 = ob (catD t b) k2 ∧ ∀ c, K (.own (.l c)) (s2.set i (some (dlT l))) (k2 c)))) :
    RD F tmp s (tOp rCatR (tDGet (tVar i) tk) tb) m K := fun σ H Q hh nf eo q => by
  obtain ⟨x, ex, hh2⟩ := ali_of hh hs
  refine ⟨x, ex, h x σ H _ hh2 nf eo fun tm1 s1 y H1 ⟨l, d, k, hi, ed, em, hk⟩ h1 => ?_⟩
  obtain ⟨t, et, em'⟩ := ob_cases (by rw [← em]; exact nf)
  obtain ⟨ok, j, kk, ej, ec⟩ := dgetD_dl et
  obtain ⟨a, v, e1, g, h4⟩ := h1.dlGet hi ed ok ej ec
  have hkj := hk t j v
  rw [← em', ← em] at hkj
  refine ⟨a, v, e1, g, hkj σ H1 _ h4 nf eo fun tm2 s2 z H2 ⟨b, k2, hi2, eb, em2, hk2⟩ h5 => ?_⟩
  obtain ⟨c, ecc, em3⟩ := ob_cases (by rw [← em2]; exact nf)
  obtain ⟨G, ω, h6⟩ := h5
  obtain ⟨z1, ho⟩ := o_cat G H2 v z t b c Q h6.gH (h6.repC h6.tm.2.1 (valS_optT t)) (h6.repC h6.tm.1 eb) ecc
  exact ho fun p vs np rv => q _ _ _ _ (by rw [em2, em3]; exact hk2 c) (Holds.putBack [(.ref p, .own (.l c))] (h6.pop.newL np z1 rv) hi2 ec)
/-- x[k] leaves x for good -/
theorem rd_dlTake {i : Nat} {l0 : List (D × D)} (hs : s[i]? = some (some (dlT l0)))
    (h : ∀ x, RD F ((x, .ali i) :: tmp) s tk m (fun tm1 s1 m1 => ∃ l d k, s1[i]? = some (some (dlT l)) ∧ valS s1 tm1 = some d ∧ m1 = ob (dgetD (.dct false l) d) k ∧ ∀ t j v, K (.own (optT t)) (s1.set i (some (dlO l j v))) (k t))) :
    RD F tmp s (tDGet (tVar i) tk) m K := fun σ H Q hh nf eo q => by
  obtain ⟨x, ex, hh2⟩ := ali_of hh hs
  refine ⟨x, ex, h x σ H _ hh2 nf eo fun tm1 s1 y H1 ⟨l, d, k, hi, ed, em, hk⟩ h1 => ?_⟩
  obtain ⟨t, et, em'⟩ := ob_cases (by rw [← em]; exact nf)
  obtain ⟨ok, j, kk, ej, ec⟩ := dgetD_dl et
  obtain ⟨a, v, e1, g, h4⟩ := h1.dlGet hi ed ok ej ec
  exact ⟨a, v, e1, g, q _ _ _ _ (by rw [em, em']; exact hk t j v) h4⟩
theorem takeD_ok {l : List (D × D)} {d : D} {p : Nat × D} (h : takeD l d = some p) : (keyK d).isSome = true ∧ ∃ k, idxD l d = some p.1 ∧ l[p.1]? = some (k, p.2) := by
  unfold takeD at h
  split at h
  · rename_i ok
    cases e : idxD l d with
    | none => rw [e] at h; cases h
    | some j =>
      rw [e] at h
      cases e2 : l[j]? with
      | none => simp [e2] at h
      | some q =>
        simp [e2] at h
        subst h
        exact ⟨ok, q.1, rfl, e2⟩
  · cases h
/-- the same, with its place -/
theorem rd_dlTake1 {i : Nat} {l0 : List (D × D)} (hs : s[i]? = some (some (dlT l0)))
    (h : ∀ x, RD F ((x, .ali i) :: tmp) s tk m (fun tm1 s1 m1 => ∃ l d k, s1[i]? = some (some (dlT l)) ∧ valS s1 tm1 = some d ∧ m1 = ob (takeD l d) k ∧ ∀ p v, K (.own (optT p.2)) (s1.set i (some (dlO l p.1 v))) (k p))) :
    RD F tmp s (tDGet (tVar i) tk) m K := fun σ H Q hh nf eo q => by
  obtain ⟨x, ex, hh2⟩ := ali_of hh hs
  refine ⟨x, ex, h x σ H _ hh2 nf eo fun tm1 s1 y H1 ⟨l, d, k, hi, ed, em, hk⟩ h1 => ?_⟩
  obtain ⟨t, et, em'⟩ := ob_cases (by rw [← em]; exact nf)
  obtain ⟨ok, kk, ej, ec⟩ := takeD_ok et
  obtain ⟨a, v, e1, g, h4⟩ := h1.dlGet hi ed ok ej ec
  exact ⟨a, v, e1, g, q _ _ _ _ (by rw [em, em']; exact hk t v) h4⟩
/-- another one leaves -/
theorem rd_dlTake2 {i j0 : Nat} {w : V} {l0 : List (D × D)} (hs : s[i]? = some (some (dlO l0 j0 w)))
    (h : ∀ x, RD F ((x, .ali i) :: tmp) s tk m (fun tm1 s1 m1 => ∃ d k, s1[i]? = some (some (dlO l0 j0 w)) ∧ valS s1 tm1 = some d ∧ m1 = ob (take2D l0 j0 d) k ∧ ∀ t t', K (.own (optT t)) (s1.set i (some t')) (k t))) :
    RD F tmp s (tDGet (tVar i) tk) m K := fun σ H Q hh nf eo q => by
  obtain ⟨x, ex, hh2⟩ := ali_of hh hs
  refine ⟨x, ex, h x σ H _ hh2 nf eo fun tm1 s1 y H1 ⟨d, k, hi, ed, em, hk⟩ h1 => ?_⟩
  obtain ⟨t, et, em'⟩ := ob_cases (by rw [← em]; exact nf)
  unfold take2D at et
  cases e8 : takeD l0 d with
  | none => rw [e8] at et; cases et
  | some p =>
    rw [e8] at et
    simp only [Option.bind_some] at et
    split at et
    · cases et
    · rename_i ne
      cases et
      obtain ⟨ok, kk, ej, ec⟩ := takeD_ok e8
      obtain ⟨a, v, t', e1, g, h4⟩ := h1.dlGet2 hi ne ed ok ej ec
      exact ⟨a, v, e1, g, q _ _ _ _ (by rw [em, em']; exact hk p.2 t') h4⟩
/-- x[k] = a list of its own, where x has no k -/
theorem rs_dlPut {i : Nat} (h : RD F tmp s tv m (fun tm1 s1 m1 => ∃ c, tm1 = .own (.l c) ∧ (∃ l0, s1[i]? = some (some (dlT l0))) ∧ ∀ v x, RD F ((x, .ali i) :: (v, .own (.l c)) :: tmp) s1 ty m1 (fun tm3 s3 m3 => ∃ d l k, tm3 = .own (.f d) ∧ s3[i]? = some (some (dlT l)) ∧ m3 = ob (dputN l d (.lst c)) k ∧ ∀ l', N (s3.set i (some (dlT l'))) (k l')))) :
    RS F tmp s m (sDPut (tVar i) ty tv) N Rt := fun σ H De hh nf eo nx rt =>
  h σ H _ hh nf eo fun tm1 s1 v H1 ⟨c, e1, ⟨l0, hi0⟩, h2⟩ h1 => by
    subst e1
    obtain ⟨x, ex, h3⟩ := ali_of h1 hi0
    refine ⟨x, ex, h2 v x σ H1 _ h3 nf eo fun tm3 s3 y H3 ⟨d, l, k, e3, hi, em, hk⟩ h5 => ?_⟩
    subst e3
    obtain ⟨c', ec, em'⟩ := ob_cases (by rw [← em]; exact nf)
    have h6 : Holds F ((y, .own (.f d)) :: (v, .own (.l c)) :: tmp) s3 σ H3 := Holds.dropMid (ex := [(x, .ali i)]) [(y, .own (.f d))] h5
    obtain ⟨a, H', sa, put, h7⟩ := h6.wrDl hi ec
    rw [ex] at sa; cases sa
    exact ⟨a, H', rfl, put, nx _ σ H' (by rw [em, em']; exact hk _) h7⟩
end
end VL

namespace VL
open PySem L2
/-! a list of pairs, each with a list of its own behind -/
def quT (ds : List D) : T := .ll (ds.map (shT [false, true]))
def quO (ds : List D) (j : Nat) (a : D) (v : V) : T := .ll ((ds.map (shT [false, true])).set j (.tt [.f a, .hole v]))
def opQ (ds : List D) (d : D) : Option (Nat × D × List D) := (ixNd ds.length d).bind fun j => match ds[j]? with | some (.tup [a, .lst l]) => some (j, a, l) | _ => none
theorem opQ_ok {ds : List D} {d : D} {p : Nat × D × List D} (h : opQ ds d = some p) : ixNd ds.length d = some p.1 ∧ ds[p.1]? = some (.tup [p.2.1, .lst p.2.2]) := by
  unfold opQ at h
  cases e : ixNd ds.length d with
  | none => rw [e] at h; cases h
  | some j =>
    rw [e] at h
    simp only [Option.bind_some] at h
    split at h
    · rename_i a l e2
      cases h
      exact ⟨rfl, e2⟩
    · cases h
def phiQl (i j y : Nat) : Lab → Option Lab
  | 0 :: a :: b :: c :: r => if a = i ∧ b = j ∧ c = 1 then some (0 :: y :: r) else if a = y then none else some (0 :: a :: b :: c :: r)
  | 0 :: a :: r => if a = y then none else some (0 :: a :: r)
  | l => some l
def phiQu (i j y : Nat) : Lab → Option Lab
  | 0 :: a :: r => if a = y then some (0 :: i :: j :: 1 :: r) else some (0 :: a :: r)
  | l => some l
variable [EC]
section
variable {F : Fc} {tmp : Tmp} {s : State} {σ : St} {H : Hp} {v : V} {t : T}
theorem Holds.openQ {i x y j : Nat} {ds : List D} {a0 : D} {l : List D} (h : Holds F tmp s σ H) (hs : s[i]? = some (some (quT ds))) (hj : ds[j]? = some (.tup [a0, .lst l])) (hx : x < s.length) (hy : y < s.length) (hxy : x ≠ y) (hix : i ≠ x) (hiy : i ≠ y)
    (nax : noAli x tmp = true) (nay : noAli y tmp = true) (hpx : F.pv x = none) (hpy : F.pv y = none) :
    ∃ a vs w b va vl, σ[i]? = some (some (.ref a)) ∧ H a = some (.lst vs) ∧ vs.length = ds.length ∧ vs[j]? = some w ∧ w = .ref b ∧ H b = some (.tup [va, vl]) ∧
      Holds F ((vl, .ali y) :: tmp) (((s.set i (some (quO ds j a0 vl))).set x (some (.f a0))).set y (some (.l l))) ((σ.set x (some va)).set y (some vl)) H := by
  obtain ⟨G, ω, h⟩ := h
  obtain ⟨v0, e1, a, vs, e2, ha, hw, z, r⟩ := h.sl i _ hs
  subst e2
  obtain ⟨w, c1, b, ws, c2, hb, hwb, zb, va, r1, f1, ra, vl, r2, f2, rl2, f3⟩ := r.get (j := j) (t := .tt [.f a0, .l l]) (by rw [List.getElem?_map, hj]; rfl)
  subst c2; subst f1; subst f2
  cases (show r2 = [] from f3)
  have hjl : j < ds.length := (List.getElem?_eq_some_iff.mp hj).1
  have hil : i < s.length := (List.getElem?_eq_some_iff.mp hs).1
  have hxs : x < (s.set i (some (quO ds j a0 vl))).length := by simpa using hx
  have hlen := h.len
  refine ⟨a, vs, _, b, va, vl, e1, ha, by simpa using r.len.symm, c1, rfl, hb, G, _, h.rl (phiQl i j y) _ _ ((vl, .ali y) :: tmp) (by simp [hlen]) (fun k u e => ?_) ⟨by show (_ : St)[y]? = _; rw [List.getElem?_set_self (by simp [hlen, hy])], ?_⟩ fun k u e => ?_⟩
  · by_cases hky : y = k
    · subst hky
      rw [List.getElem?_set_self (by simpa using hy)] at e
      cases e
      exact ⟨vl, by rw [List.getElem?_set_self (by simp [hlen, hy])], Own.rl rl2 fun y => by simp [phiQl]⟩
    · rw [List.getElem?_set_ne hky] at e
      by_cases hkx : x = k
      · subst hkx
        rw [List.getElem?_set_self hxs] at e
        cases e
        exact ⟨va, by rw [List.getElem?_set_ne hky, List.getElem?_set_self (by rw [hlen]; exact hx)], ra⟩
      · rw [List.getElem?_set_ne hkx] at e
        by_cases hki : i = k
        · subst hki
          rw [List.getElem?_set_self hil] at e
          cases e
          have hyi : ¬ i = y := hiy
          refine ⟨_, by rw [List.getElem?_set_ne hky, List.getElem?_set_ne hkx]; exact e1, a, vs, rfl, ha, rl_of hw (by simp [phiQl, hyi]), by simpa using z, Owns.of (by simpa using r.len) fun q t' v' a1 a2 => ?_⟩
          rw [Nat.zero_add]
          rw [List.getElem?_set] at a1
          by_cases hq : j = q
          · subst hq
            rw [if_pos rfl, if_pos (by simpa using hjl)] at a1
            cases a1
            rw [c1] at a2; cases a2
            exact ⟨b, _, rfl, hb, rl_of hwb (by simp [phiQl, hyi]), zb, va, _, rfl, ra, vl, _, rfl, rfl, rfl⟩
          · rw [if_neg hq] at a1
            obtain ⟨w', d1, d2⟩ := r.get a1
            rw [a2] at d1; cases d1
            rw [Nat.zero_add] at d2
            have hq' : ¬ q = j := fun z => hq z.symm
            refine Own.rl d2 fun y => ?_
            cases y <;> simp [phiQl, hq', hyi]
        · rw [List.getElem?_set_ne hki] at e
          obtain ⟨v', b1, b2⟩ := h.sl k u e
          have hk' : ¬ k = i := fun z => hki z.symm
          have hk2 : ¬ k = y := fun z => hky z.symm
          refine ⟨v', by rw [List.getElem?_set_ne hky, List.getElem?_set_ne hkx]; exact b1, Own.rl b2 fun y => ?_⟩
          match y with
          | [] => simp [phiQl, hk2]
          | [_] => simp [phiQl, hk2]
          | _ :: _ :: _ => simp [phiQl, hk', hk2]
  · refine Tms.slots tmp (fun j hj => ?_) (Tms.rl tmp (fun j x hj => ?_) h.tm)
    · have h1 : x ≠ j := fun e => by subst e; rw [nax] at hj; cases hj
      have h2 : y ≠ j := fun e => by subst e; rw [nay] at hj; cases hj
      rw [List.getElem?_set_ne h2, List.getElem?_set_ne h1]
    · simp [phiQl]
  · have h1 : x ≠ k := fun z => by subst z; rw [hpx] at e; cases e
    have h2 : y ≠ k := fun z => by subst z; rw [hpy] at e; cases e
    rw [List.getElem?_set_ne h2, List.getElem?_set_ne h1]
    exact h.pn k u e
theorem Holds.closeQ {i y j : Nat} {ds : List D} {a0 : D} {l : List D} {v : V} (h : Holds F ((v, .ali y) :: tmp) s σ H) (hs : s[i]? = some (some (quO ds j a0 v))) (hy : s[y]? = some (some (.l l))) (hj : j < ds.length) :
    Holds F tmp ((s.set i (some (quT (ds.set j (.tup [a0, .lst l]))))).set y none) σ H := by
  obtain ⟨G, ω, h⟩ := h
  obtain ⟨v0, e1, a, vs, e2, ha, hw, z, r⟩ := h.sl i _ hs
  subst e2
  obtain ⟨v', x1, x2⟩ := h.sl y _ hy
  have ht : σ[y]? = some (some v) := h.tm.1
  rw [x1] at ht; cases ht
  have hil : i < s.length := (List.getElem?_eq_some_iff.mp hs).1
  have hyl : y < s.length := (List.getElem?_eq_some_iff.mp hy).1
  have hiy : ¬ i = y := fun e => by subst e; rw [hs] at hy; cases hy
  obtain ⟨w, c1, b, ws, c2, hb, hwb, zb, va, r1, f1, ra, vl, r2, f2, rl2, f3⟩ := r.get (j := j) (t := .tt [.f a0, .hole v]) (by rw [List.getElem?_set_self (by simpa using hj)])
  subst c2; subst f1; subst f2
  cases (show r2 = [] from f3)
  cases (show vl = v from rl2)
  refine ⟨G, _, h.rl (phiQu i j y) _ σ _ (by simp [h.len]) (fun k u e => ?_) (Tms.rl _ (fun k y hk => by simp [phiQu]) h.tm.2) h.pn⟩
  by_cases hky : y = k
  · subst hky
    rw [List.getElem?_set_self (by simpa using hyl)] at e
    cases e
  · rw [List.getElem?_set_ne hky] at e
    by_cases hki : i = k
    · subst hki
      rw [List.getElem?_set_self hil] at e
      cases e
      refine ⟨_, e1, a, vs, rfl, ha, rl_of hw (by simp [phiQu, hiy]), by simpa using z, Owns.of (by simpa using r.len) fun q t' v' a1 a2 => ?_⟩
      rw [Nat.zero_add]
      rw [List.map_set, List.getElem?_set] at a1
      by_cases hq : j = q
      · subst hq
        rw [if_pos rfl, if_pos (by simpa using hj)] at a1
        cases a1
        rw [c1] at a2; cases a2
        have x3 : Own G H (rl ω (phiQu i j y)) ([0, i] ++ [j] ++ [1]) (.l l) v := Own.rl (t := .l l) x2 fun x => by simp [phiQu]
        exact ⟨b, _, rfl, hb, rl_of hwb (by simp [phiQu, hiy]), zb, va, _, rfl, ra, v, _, rfl, x3, rfl⟩
      · rw [if_neg hq] at a1
        obtain ⟨w', d1, d2⟩ := r.get (j := q) (t := t') (by rw [List.getElem?_set_ne hq]; exact a1)
        rw [a2] at d1; cases d1
        exact Own.rl d2 fun y => by simp [phiQu, hiy]
    · rw [List.getElem?_set_ne hki] at e
      obtain ⟨v', b1, b2⟩ := h.sl k u e
      have hk2 : ¬ k = y := fun z => hky z.symm
      exact ⟨v', b1, Own.rl b2 fun y => by simp [phiQu, hk2]⟩
end
section
variable {R : Type} {F : Fc} {tmp : Tmp} {s : State} {m : Res R} {K : Rs R} {N : Rn R} {Rt : Rr R} {te ti : TE} {u : TS} {Kf : PySem.W.Frag}
/-- x, y = q[e] -/
theorem rs_openQ {i x y : Nat} {ds0 : List D} (hs : s[i]? = some (some (quT ds0))) (hx : x < s.length) (hy : y < s.length) (hxy : x ≠ y) (hix : i ≠ x) (hiy : i ≠ y) (nax : noAli x tmp = true) (nay : noAli y tmp = true) (hpx : F.pv x = none) (hpy : F.pv y = none)
    (h : ∀ z, RD F ((z, .ali i) :: tmp) s ti m (fun tm1 s1 m1 => ∃ d ds k, valS s1 tm1 = some d ∧ s1[i]? = some (some (quT ds)) ∧ s1.length = s.length ∧ m1 = ob (opQ ds d) k ∧ ∀ p v, RS F ((v, .ali y) :: tmp) (((s1.set i (some (quO ds p.1 p.2.1 v))).set x (some (.f p.2.1))).set y (some (.l p.2.2))) (k p) u
      (fun s2 m2 => ∃ ds' j a l mm, s2[i]? = some (some (quO ds' j a v)) ∧ s2[y]? = some (some (.l l)) ∧ m2 = (if j < ds'.length then mm else .fail) ∧ N ((s2.set i (some (quT (ds'.set j (.tup [a, .lst l]))))).set y none) mm) Rt)) :
    RS F tmp s m (tSeq (tAsg (tOp (rIxA Kf) (tVar i) ti) (gTup Kf 2 (gCons (gName x) (gCons (gName y) gNil)))) u) N Rt := fun σ H De hh nf eo nx rt => by
  obtain ⟨zv, ez, hh2⟩ := ali_of hh hs
  refine ⟨zv, ez, h zv σ H _ hh2 nf eo fun tm1 s1 iv H1 ⟨d, ds, k, ed, hi, hl, em, hk⟩ h1 => ?_⟩
  obtain ⟨p, ep, em'⟩ := ob_cases (by rw [← em]; exact nf)
  obtain ⟨ej, edj⟩ := opQ_ok ep
  have rd : Rep H1 d iv := by obtain ⟨G, ω, h6⟩ := h1; exact (h6.repC h6.tm.1 ed).toR h6.gH
  obtain ⟨jl, zi, e9, hz⟩ := ixNd_ok ej rd
  obtain ⟨a, vs, w, b, va, vl, b1, b2, b3, b4, b5, b6, h4⟩ := h1.pop.pop.openQ hi edj (by rw [hl]; exact hx) (by rw [hl]; exact hy) hxy hix hiy nax nay hpx hpy
  rw [ez] at b1; cases b1
  subst e9
  subst b5
  refine .inl ⟨a, vs, zi, .ref b, rfl, rfl, .inl (.inl b2), ?_, ?_⟩
  · unfold atI
    rw [b3, hz]; exact b4
  refine ⟨b, [va, vl], rfl, .inl (.inl b6), rfl, va, [vl], rfl, vl, [], rfl, rfl, ?_⟩
  refine hk p vl _ H1 De h4 (by rw [← em', ← em]; exact nf) (by rw [← em', ← em]; exact eo) (fun s' σ' H' ⟨ds', j, a', l, mm, q1, q2, q3, hn⟩ h5 => ?_) (fun t s' v σ' H' hn h1 => rt t s' v σ' H' (by rw [em, em']; exact hn) h1)
  have hj : j < ds'.length := by
    refine Decidable.byContradiction fun z => ?_
    rw [if_neg z] at q3
    exact nf (by rw [em, em', q3])
  rw [if_pos hj] at q3
  exact nx _ σ' H' (by rw [em, em', q3]; exact hn) (h5.closeQ q1 q2 hj)
/-- q.append((a, a list of its own)), q open -/
theorem rd_appendQ {i j : Nat} {a : D} {v : V} {ds0 : List D} (hs : s[i]? = some (some (quO ds0 j a v))) (h : ∀ x, RD F ((x, .ali i) :: tmp) s te m (fun tm2 s2 m2 => ∃ es ds k, tm2 = .own (.tt (shL [false, true] es)) ∧ s2[i]? = some (some (quO ds j a v)) ∧ m2 = (if j < ds.length ∧ ds.length < 16777216 then k else .fail) ∧ K (.own (.f .non)) (s2.set i (some (quO (ds ++ [.tup es]) j a v))) k)) :
    RD F tmp s (tBM Kf "list" rAppend (tVar i) (tCons te tNil)) m K :=
  rd_appendO ⟨_, hs⟩ fun x σ H Q hh nf eo q => h x σ H Q hh nf eo fun tm2 s2 y H2 ⟨es, ds, k, e2, hi, em, hk⟩ h3 => by
    have hc : j < ds.length ∧ ds.length < 16777216 := by
      refine Decidable.byContradiction fun z => ?_
      rw [if_neg z] at em
      exact nf em
    rw [if_pos hc] at em
    refine q tm2 s2 y H2 ⟨_, _, k, e2, hi, by rw [em, if_pos (by simpa using hc.2)], ?_⟩ h3
    have e : quO (ds ++ [.tup es]) j a v = .ll ((ds.map (shT [false, true])).set j (.tt [.f a, .hole v]) ++ [.tt (shL [false, true] es)]) := by
      unfold quO
      rw [List.map_append, List.set_append_left _ _ (by simpa using hc.1)]
      rfl
    rw [e] at hk
    exact hk
end
end VL

namespace VL
open PySem L2
/-! the parts of an own tuple, read in place -/
theorem shL_getF : ∀ (ks : List Bool) (ds : List D) (n : Nat) (d : D), ks[n]? = some false → ds[n]? = some d → (shL ks ds)[n]? = some (.f d)
  | [], _, _, _, h, _ => by simp at h
  | _ :: _, [], n, _, _, h => by simp at h
  | k :: ks, d0 :: ds, 0, d, h, h2 => by simp at h h2; subst h; subst h2; rfl
  | true :: ks, d0 :: ds, n + 1, d, h, h2 => by
    show (optT d0 :: shL ks ds)[n + 1]? = _
    simpa using shL_getF ks ds n d (by simpa using h) (by simpa using h2)
  | false :: ks, d0 :: ds, n + 1, d, h, h2 => by
    show (T.f d0 :: shL ks ds)[n + 1]? = _
    simpa using shL_getF ks ds n d (by simpa using h) (by simpa using h2)
variable [EC]
section
variable {F : Fc} {tmp : Tmp} {s : State} {σ : St} {H : Hp} {v : V} {t : T}
theorem Holds.backT {i n : Nat} {ks : List Bool} {ds l : List D} (pre : Tmp) (h : Holds F (pre ++ ((v, .own (.l l)) :: tmp)) s σ H) (hi : s[i]? = some (some (.tt ((shL ks ds).set n (.hole v))))) (hk : ks[n]? = some true) (e : ds[n]? = some (.lst l)) : Holds F (pre ++ tmp) (s.set i (some (.tt (shL ks ds)))) σ H := by
  have hg := shL_get ks ds n _ hk e
  have hnl := (List.getElem?_eq_some_iff.mp hg).1
  have := Holds.putInT pre (j := n) h hi (by rw [List.getElem?_set_self hnl])
  rw [List.set_set] at this
  have e2 : (shL ks ds).set n (.l l) = shL ks ds := by
    refine List.ext_getElem? fun k => ?_
    rw [List.getElem?_set]
    split
    · rename_i hn
      subst hn
      rw [hg]; first | rfl | (rw [if_pos hnl]; rfl)
    · rfl
  rw [e2] at this
  exact this
end
section
variable {R : Type} {F : Fc} {tmp : Tmp} {s : State} {m : Res R} {K : Rs R} {N : Rn R} {Rt : Rr R} {ta tb te to ti : TE} {Kf : PySem.W.Frag}
/-- x[n], a told part -/
theorem rd_ixT {i n : Nat} {ks : List Bool} {ds : List D} {k : D → Res R} (hs : s[i]? = some (some (.tt (shL ks ds)))) (hk : ks[n]? = some false) (em : m = ob (ds[n]?) k) (h : ∀ d, K (.own (.f d)) s (k d)) :
    RD F tmp s (tOp (rIxA Kf) (tVar i) (tC (.int (n : Int)))) m K := fun σ H Q hh nf eo q => by
  obtain ⟨d, ed, em'⟩ := ob_cases (by rw [← em]; exact nf)
  have h0 := hh
  obtain ⟨G, ω, h1⟩ := hh
  obtain ⟨v, e1, a, vs, e2, ha, hw, z, r⟩ := h1.sl i _ hs
  subst e2
  obtain ⟨w, w1, w2⟩ := r.get (shL_getF ks ds n d hk ed)
  refine ⟨.ref a, e1, .inr (.inl ⟨a, vs, (n : Int), w, rfl, rfl, .inl (.inl ha), ?_, q _ s w H (by rw [em, em']; exact h d) ⟨G, ω, h1.pushF w2⟩⟩)⟩
  have hn : n < vs.length := (List.getElem?_eq_some_iff.mp w1).1
  unfold atI
  have : ixN vs.length (n : Int) = some n := by unfold ixN; simp; omega
  rw [this]; exact w1
/-- x[n] of an own tuple, taken out -/
theorem rd_takeT2 {i n : Nat} {ks : List Bool} {ds : List D} {k : List D → Res R} {Q : VK} {σ : St} {H : Hp} (hs : s[i]? = some (some (.tt (shL ks ds)))) (hk : ks[n]? = some true)
    (hh : Holds F tmp s σ H) (nf : m ≠ .fail) (em : m = ob (partL ds n) k)
    (h : ∀ l v, ds[n]? = some (.lst l) → m = k l → Holds F ((v, .own (.l l)) :: tmp) (s.set i (some (.tt ((shL ks ds).set n (.hole v))))) σ H → Q v H) : tOp (rIxA Kf) (tVar i) (tC (.int (n : Int))) σ H Q := by
  obtain ⟨l, el, em'⟩ := ob_cases (by rw [← em]; exact nf)
  have e0 := partL_eq el
  obtain ⟨a, vs, v, e1, ha, hl, hv, h4⟩ := hh.takeOutT hs (shL_get ks ds n _ hk e0)
  refine ⟨.ref a, e1, .inr (.inl ⟨a, vs, (n : Int), v, rfl, rfl, .inl (.inl ha), ?_, h l v e0 (by rw [em, em']) h4⟩)⟩
  have hn : n < vs.length := (List.getElem?_eq_some_iff.mp hv).1
  unfold atI
  have : ixN vs.length (n : Int) = some n := by unfold ixN; simp; omega
  rw [this]; exact hv
omit [EC] in
theorem set_same {i : Nat} {u : T} (h : s[i]? = some (some u)) : s.set i (some u) = s := by
  obtain ⟨hl, e⟩ := List.getElem?_eq_some_iff.mp h
  rw [← e]
  exact List.set_getElem_self hl
/-- a built-in that makes a list, of x[n] -/
theorem rd_partL {i n : Nat} {ks : List Bool} {ds : List D} {k : List D → Res R} {r : List V → Hp → VK → Prop} {op : D → Option (List D)} (ho : Op1L (fun x H Q => r [x] H Q) op) (hs : s[i]? = some (some (.tt (shL ks ds)))) (hk : ks[n]? = some true) (em : m = ob (partL ds n) k)
    (h : ∀ l, ∃ k2, k l = ob (op (.lst l)) k2 ∧ ∀ c, K (.own (.l c)) s (k2 c)) : RD F tmp s (tCB r (tCons (tOp (rIxA Kf) (tVar i) (tC (.int (n : Int)))) tNil)) m K := fun σ H Q hh nf eo q => by
  refine rd_takeT2 hs hk hh nf em fun l v hl e1 h2 => ?_
  obtain ⟨k2, ek, hk2⟩ := h l
  obtain ⟨c, ec, em'⟩ := ob_cases (by rw [← ek, ← e1]; exact nf)
  have hil : i < s.length := (List.getElem?_eq_some_iff.mp hs).1
  obtain ⟨G, ω, h3⟩ := h2
  obtain ⟨z, ho2⟩ := ho G H v (.lst l) c Q h3.gH (h3.repC h3.tm.1 rfl) ec
  refine ho2 fun p vs np rv => q _ _ _ _ (by rw [e1, ek, em']; exact hk2 c) ?_
  have h4 := Holds.backT [(.ref p, .own (.l c))] (h3.newL np z rv) (List.getElem?_set_self hil) hk hl
  rw [List.set_set, set_same hs] at h4
  exact h4
/-- x[n] compared -/
theorem rt_partB {i n : Nat} {ks : List Bool} {ds : List D} {k : List D → Res R} {r : R2} {op : D → D → Option Bool} {K : Bool → State → Res R → Prop} (ho : Op2B r op) (hs : s[i]? = some (some (.tt (shL ks ds)))) (hk : ks[n]? = some true) (em : m = ob (partL ds n) k)
    (h : ∀ l v, RD F ((v, .own (.l l)) :: tmp) (s.set i (some (.tt ((shL ks ds).set n (.hole v))))) tb (k l) (fun tm2 s2 m2 => ∃ b k2, s2[i]? = some (some (.tt ((shL ks ds).set n (.hole v)))) ∧ valT s2 tm2 = some b ∧ m2 = ob (op (.lst l) b) k2 ∧ ∀ c, K c (s2.set i (some (.tt (shL ks ds)))) (k2 c))) :
    RT F tmp s m (tTest (tOp r (tOp (rIxA Kf) (tVar i) (tC (.int (n : Int)))) tb)) K := fun σ H Q hh nf eo q => by
  refine rd_takeT2 hs hk hh nf em fun l v hl e1 h2 => ?_
  have hkj := h l v
  rw [← e1] at hkj
  refine hkj σ H _ h2 nf eo fun tm2 s2 y H2 ⟨b, k2, hi2, eb, em2, hk2⟩ h3 => ?_
  obtain ⟨c, ec, em'⟩ := ob_cases (by rw [← em2]; exact nf)
  have h5 := h3
  obtain ⟨G, ω, h4⟩ := h3
  exact ho H2 v y (.lst l) b c _ (h4.repT h4.tm.2.1 rfl) (h4.repT h4.tm.1 eb) ec ⟨c, rfl, q _ _ H2 (by rw [em2, em']; exact hk2 c) (Holds.backT [] h5.pop hi2 hk hl)⟩
/-- x[n].insert(e, f) -/
theorem rd_insertT {i n : Nat} {ks : List Bool} {ds : List D} {k : List D → Res R} (hs : s[i]? = some (some (.tt (shL ks ds)))) (hk : ks[n]? = some true) (em : m = ob (partL ds n) k)
    (h : ∀ l v, RD F ((v, .own (.l l)) :: tmp) (s.set i (some (.tt ((shL ks ds).set n (.hole v))))) ta (k l) (fun tm1 s1 m1 => ∃ di, tm1 = .own (.f di) ∧ ∀ y, RD F ((y, .own (.f di)) :: (v, .own (.l l)) :: tmp) s1 tb m1 (fun tm2 s2 m2 => ∃ d2 k2, tm2 = .own (.f d2) ∧ s2[i]? = some (some (.tt ((shL ks ds).set n (.hole v)))) ∧
        m2 = ob (insL l di d2) k2 ∧ ∀ l', K (.own (.f .non)) (s2.set i (some (.tt (shL ks (ds.set n (.lst l')))))) (k2 l')))) :
    RD F tmp s (tBM Kf "list" rInsert (tOp (rIxA Kf) (tVar i) (tC (.int (n : Int)))) (tCons ta (tCons tb tNil))) m K := fun σ H Q hh nf eo q => by
  refine rd_takeT2 hs hk hh nf em fun l v hl e1 h2 => ?_
  refine ⟨(own_ty h2).1, ?_⟩
  have hkj := h l v
  rw [← e1] at hkj
  have hnl : n < (shL ks ds).length := (List.getElem?_eq_some_iff.mp (shL_get ks ds n _ hk hl)).1
  refine hkj σ H _ h2 nf eo fun tm1 s1 y H1 ⟨di, e2, hb⟩ h3 => ?_
  subst e2
  refine hb y σ H1 _ h3 nf eo fun tm2 s2 z H2 ⟨d2, k2, e3, hi2, em3, hk2⟩ h4 => ?_
  subst e3
  obtain ⟨l', el, em4⟩ := ob_cases (by rw [← em3]; exact nf)
  have ey : ∃ j, di = .int j ∧ y = .int j := by
    obtain ⟨G, ω, h6⟩ := h4
    have r : Rep G di y := h6.tm.2.1
    cases di <;> try (cases el; done)
    exact ⟨_, rfl, r⟩
  obtain ⟨j, rfl, rfl⟩ := ey
  have h5 : Holds F ((z, .own (.f d2)) :: (v, .own (.l l)) :: tmp) s2 σ H2 := Holds.dropMid (ex := [(.int j, .own (.f (.int j)))]) [(z, .own (.f d2))] h4
  simp only [insL] at el
  split at el
  · cases el
    rename_i hh1
    obtain ⟨a, vs, e8, ha, hw⟩ : ∃ a vs, v = .ref a ∧ H2 a = some (.lst vs) ∧ vs.length = l.length := by
      obtain ⟨G, ω, h6⟩ := h5
      obtain ⟨a, vs, e, ha, hw, z, r⟩ := h6.tm.2.1
      exact ⟨a, vs, e, ha, r.length.symm⟩
    subst e8
    refine ⟨a, vs, j, z, rfl, rfl, ha, by rw [hw, sizeLine_eq]; exact hh1.1, hh1.2.1, hh1.2.2, ?_⟩
    have h6 : Holds F ((.ref a, .own (.l (l.take j.toNat ++ [d2] ++ l.drop j.toNat))) :: tmp) s2 σ (upd H2 a (.lst (vs.take j.toNat ++ [z] ++ vs.drop j.toNat))) := by
      obtain ⟨G, ω, h7⟩ := h5
      have rz : Rep G d2 z := h7.tm.1
      obtain ⟨a', vs', e9, ha', hw', zz, r⟩ := h7.tm.2.1
      cases e9
      rw [ha] at ha'; cases ha'
      refine ⟨G, ω, h7.pop.wr hw' _ rfl (fun j u e => ?_) ⟨⟨a, _, rfl, upd_same, hw', by rw [sizeLine_eq]; simp; omega, ((r.take j.toNat).append (show Reps G [d2] [z] from ⟨z, [], rfl, rz, rfl⟩)).append (r.drop j.toNat)⟩, Tms.wrO hw' tmp (fun j hj => ?_) h7.tm.2.2⟩⟩
      · obtain ⟨v', b1, b2⟩ := h7.sl j u e
        exact ⟨v', b1, Own.wrO hw' (by simp [pre]) b2⟩
      · have : ¬ j = tmp.length := by omega
        simp [pre, this]
    have h7 := Holds.putInT [] (j := n) h6 hi2 (by rw [List.getElem?_set_self hnl])
    rw [List.set_set] at h7
    have h8 : (shL ks ds).set n (.l (l.take j.toNat ++ [d2] ++ l.drop j.toNat)) = shL ks (ds.set n (.lst (l.take j.toNat ++ [d2] ++ l.drop j.toNat))) := (shL_set ks ds n (.lst _) hk).symm
    rw [h8] at h7
    exact q _ _ .non _ (by rw [em3, em4]; exact hk2 _) (holds_push (d := .non) h7 fun _ => rfl)
  · cases el
end
end VL

namespace VL
open PySem PySem.Spec PyProof.Rows L2
/-! e.replace(a, b) of written texts; behind len(..) a token is out -/
def PE1 (X : Cx) (e : Expr) (t : TE) : Prop :=
  ∀ (pins : List (Addr × Obj)) (s : Shared) (σ : L2.St) (H : Hp) (Q : VK), Inv X pins σ H s → t σ H Q → wpAny (model X.prog X.w) X.A (eval e X.env) (fun u s' => 1 ≤ s'.toks ∧ EP X pins σ Q u s') X.xe s
def PT1 (X : Cx) (e : Expr) (t : TT) : Prop :=
  ∀ (pins : List (Addr × Obj)) (s : Shared) (σ : L2.St) (H : Hp) (Q : Bool → Hp → Prop), Inv X pins σ H s → t σ H Q → wpAny (model X.prog X.w) X.A (isTrue e X.env (eval e X.env)) (fun c s' => 1 ≤ s'.toks ∧ TP X pins σ Q c s') X.xe s
def PTT (X : Cx) (e : Expr) (t : TT) : Prop :=
  ∀ (pins : List (Addr × Obj)) (s : Shared) (σ : L2.St) (H : Hp) (Q : Bool → Hp → Prop), 1 ≤ s.toks → Inv X pins σ H s → t σ H Q → wpAny (model X.prog X.w) X.A (isTrue e X.env (eval e X.env)) (TP X pins σ Q) X.xe s
def PWT (X : Cx) (e : Expr) (t : TT) : Prop :=
  ∀ (whole : Sem Value) (pins : List (Addr × Obj)) (s : Shared) (σ : L2.St) (H : Hp) (Q : Bool → Hp → Prop), 1 ≤ s.toks → Inv X pins σ H s → t σ H Q → wpAny (model X.prog X.w) X.A (isTrue e X.env whole) (TP X pins σ Q) X.xe s
def rLenS : List V → Hp → VK → Prop := fun xs H Q => ∃ y : Str, xs = [.str y] ∧ y.length ≤ sizeLine ∧ Q (.int y.length) H
section
variable {X : Cx} {a b c e : Expr} {rest : List Expr} {ta tb te : TE} {tA tB : TT} {p pos : Pos}
theorem pe_len1 (hg : Gl X "len") (hm : X.mg "len" = none) (ha : PA X [e] (tCons te tNil)) (he : starEach [e] X.env = (false, eval e X.env) :: starEach [] X.env := by rfl) (hpl : (backTo pos (starEach [] X.env)).any (·.1) = false := by rfl) :
    PE1 X (.Call (.Name "len" p) [e] [] pos) (tCB rLenS (tCons te tNil)) := by
  intro pins s σ H Q I h
  refine wpAny_Call_Name_kw (ld_blt I hg hm PySem.boot_len ?_ (by decide) (by decide))
  refine PyProof.Rows.callWith_builtin1 (thn (ha.run pos pins s σ H _ I h) fun us s1 ⟨vs, H1, I1, r1, y, e1, hy, q1⟩ => ?_) he hpl
  subst e1
  obtain ⟨u, rfl, t, rfl⟩ := vals1 r1
  have hs : sizeLine = 16777216 := sizeLine_eq
  exact len_str (by omega) ⟨by show 1 ≤ s1.toks + 1 + 1; omega, .int _, H1, I1.tok _, ⟨_, rfl⟩, q1⟩
theorem pt_cmp1 {op : CmpOp} {r : R2} (ho : OpR X (compareOp op) r) (ha : PE1 X a ta) (hb : PE X b tb) (hm : behindInMarks op b = false) : PT1 X (.Compare a [op] [b] pos) (tTest (tOp r ta tb)) := by
  intro pins s σ H Q I h
  refine wpAny_isTrue_Compare1 (thn (ha pins s σ H _ I h) fun v s1 ⟨k1, x, H1, I1, r1, q1⟩ => wpAny_mono (PySem.wpAny_toks_of k1 (hb.run pins s1 σ H1 _ I1 q1)) (fun u s2 ⟨k2, y, H2, I2, r2, q2⟩ =>
    wpAny_mono (PySem.wpAny_toks_of k2 (ho pins s2 σ H2 x y v u _ I2 r1 r2 q2)) (fun d s3 ⟨k3, z, H3, I3, r3, k, e, q3⟩ => ?_) fun _ _ z => z.2) fun _ _ z => z.2) hm
  subst e
  cases r3
  exact wpAny_truthy_bool ⟨k3, H3, I3, q3⟩
theorem pt_cmpT {op : CmpOp} {r : R2} (ho : OpR X (compareOp op) r) (ha : PET X a ta) (hb : PE X b tb) (hm : behindInMarks op b = false) : PTT X (.Compare a [op] [b] pos) (tTest (tOp r ta tb)) := by
  intro pins s σ H Q h0 I h
  refine wpAny_isTrue_Compare1 (thn (ha pins s σ H _ h0 I h) fun v s1 ⟨x, H1, I1, r1, q1⟩ => thn (hb.run pins s1 σ H1 _ I1 q1) fun u s2 ⟨y, H2, I2, r2, q2⟩ =>
    thn (ho pins s2 σ H2 x y v u _ I2 r1 r2 q2) fun d s3 ⟨z, H3, I3, r3, k, e, q3⟩ => ?_) hm
  subst e
  cases r3
  exact wpAny_truthy_bool ⟨H3, I3, q3⟩
theorem pw_or1T (ha : PTT X a tA) : PWT X (.BoolOp .Or [a] pos) tA := by
  intro wh pins s σ H Q h0 I h
  refine isTrue_or (thn (ha pins s σ H Q h0 I h) fun c s1 e => ?_)
  cases c with
  | false => exact isTrue_or_nil e
  | true => exact e
theorem pw_orT (ha : PT1 X a tA) (hb : PWT X (.BoolOp .Or (b :: rest) pos) tB) : PW X (.BoolOp .Or (a :: b :: rest) pos) (tOr tA tB) := by
  refine ⟨fun wh pins s σ H Q I h => ?_⟩
  refine isTrue_or (thn (ha pins s σ H (fun c H1 => if c = true then Q true H1 else tB σ H1 Q) I ?_) fun c s1 ⟨k1, H1, I1, q1⟩ => ?_)
  · exact h
  cases c with
  | true => exact ⟨H1, I1, q1⟩
  | false => exact hb wh pins s1 σ H1 Q k1 I1 q1
end
def lenSD : D → Option D | .str x => if x.length ≤ 16777216 then some (.int x.length) else none | _ => none
def replS (y z : List Nat) : D → Option D
  | .str x => if x.length + (x.length + 1) * z.length ≤ 16777216 then some (.str (Txt.replace (mkS x) (mkS y) (mkS z)).cps.toList) else none
  | _ => none
theorem replS_one (c : Nat) (x : List Nat) (h : x.length ≤ 16777216) : replS [c] [] (.str x) = some (.str (x.filter (· != c))) := by
  show (if x.length + (x.length + 1) * [].length ≤ 16777216 then some (D.str (Txt.replace (mkS x) (mkS [c]) (mkS [])).cps.toList) else none) = _
  rw [if_pos (by simpa using h)]
  have := PyProof.Rows.replace_strikes (mkS x) c
  rw [mkS_cps] at this
  exact congrArg (fun l => some (D.str l)) this
variable [EC]
theorem o_lenS : Op1C (fun x H Q => rLenS [x] H Q) lenSD := fun G H x a c Q sm ra e q => by
  cases a <;> try (cases e; done)
  rename_i y
  simp only [lenSD] at e
  split at e
  · rename_i h
    cases e
    refine ⟨mkS y, by rw [show x = _ from ra], by rw [mkS_len, sizeLine_eq]; exact h, ?_⟩
    rw [mkS_len]
    exact q _ rfl
  · cases e
section
variable {R : Type} {F : Fc} {tmp : Tmp} {s : State} {m : Res R} {K : Rs R} {to : TE}
theorem rd_repl {y z : Str} {y0 z0 : List Nat} (ey : y = mkS y0) (ez : z = mkS z0) (h : RD F tmp s to m (fun tm1 s1 m1 => ∃ a k, valS s1 tm1 = some a ∧ m1 = ob (replS y0 z0 a) k ∧ ∀ c, K (.own (.f c)) s1 (k c))) : RD F tmp s (CwR.tReplC to y z) m K := fun σ H Q hh nf eo q =>
  h σ H _ hh nf eo fun tm1 s1 x H1 ⟨a, k, ea, em, hk⟩ h1 => by
    obtain ⟨c, ec, em'⟩ := ob_cases (by rw [← em]; exact nf)
    have h3 := h1
    obtain ⟨G, ω, h2⟩ := h1
    have ra := h2.repC h2.tm.1 ea
    cases a <;> try (cases ec; done)
    rename_i w
    simp only [replS] at ec
    split at ec
    · rename_i hx
      cases ec
      subst ey; subst ez
      refine ⟨mkS w, ra, by rw [mkS_len, mkS_len]; exact hx, ?_⟩
      refine q _ s1 _ _ (by rw [em, em']; exact hk _) (holds_push (d := .str _) h3.pop fun _ => ?_)
      show V.str _ = V.str _
      rw [mkS_of]
    · cases ec
end
end VL

namespace VL
open PySem L2
variable [EC]
/-! x[e] as one of several targets -/
section
variable {R : Type} {F : Fc} {tmp : Tmp} {s : State} {m : Res R} {ti : TE}
theorem rgs_setL {i : Nat} {is : List Nat} {gs : TGs} {d : D} {ds : List D} {K : State → Res R → Prop} (hs : ∃ l0, s[i]? = some (some (.l l0)))
    (h : ∀ T, RD F T s ti m (fun tm3 s3 m3 => ∃ dk l k, valS s3 tm3 = some dk ∧ s3[i]? = some (some (.l l)) ∧ m3 = ob (setL l dk d) k ∧ ∀ l', RGs F tmp (s3.set i (some (.l l'))) (k l') is gs ds K)) :
    RGs F tmp s m is (gCons (gSub (tVar i) ti rSetL) gs) (d :: ds) K := fun xs hl σ H Q hh nf eo q => by
  cases xs with
  | nil => simp at hl
  | cons x r =>
    have hh1 : Holds F ((x, .own (.f d)) :: (r.zip (ds.map fun d => TM.own (.f d)) ++ tmp)) s σ H := hh
    obtain ⟨l0, hs⟩ := hs
    obtain ⟨xv, ex, _⟩ := ali_of hh1 hs
    refine ⟨x, r, rfl, xv, ex, h _ σ H _ hh1 nf eo fun tm3 s3 y H3 ⟨dk, l, k, ea, hi, em, hk⟩ h5 => ?_⟩
    obtain ⟨c, ec, em'⟩ := ob_cases (by rw [← em]; exact nf)
    have ey : ∃ j, dk = .int j ∧ y = .int j := by
      obtain ⟨G, ω, h6⟩ := h5
      have r := h6.repC h6.tm.1 ea
      cases dk <;> try (cases ec; done)
      exact ⟨_, rfl, r⟩
    obtain ⟨j, rfl, rfl⟩ := ey
    have h7 := h5.pop
    obtain ⟨a, vs, sa, ha, hl2, hz, _, up⟩ := h7.wrSlot hi
    rw [ex] at sa; cases sa
    simp only [setL] at ec
    cases e3 : ixN l.length j with
    | none => rw [e3] at ec; cases ec
    | some n =>
      rw [e3] at ec
      cases ec
      refine ⟨a, vs, j, n, rfl, rfl, ha, by rw [hl2]; exact e3, ?_⟩
      have h8 := up (l.set n d) (vs.set n x) (by simpa using hz) fun G _ _ r ht => r.set n (ht _ _ rfl d rfl)
      exact hk _ r (by simpa using hl) σ _ Q h8.pop (by rw [← em', ← em]; exact nf) (by rw [← em', ← em]; exact eo) (fun s' σ' H' hk2 h9 hj hl3 => q s' σ' H' (by rw [em, em']; exact hk2) h9 hj hl3)
end
end VL

namespace VL
open PySem L2
/-! own tuples with an own list of own lists in them -/
def rowsOf : List D → Option (List (List D))
  | [] => some []
  | .lst x :: r => (rowsOf r).map (x :: ·)
  | _ :: _ => none
def llD (ls : List (List D)) : D := .lst (ls.map D.lst)
theorem rowsOf_ll : ∀ ls : List (List D), rowsOf (ls.map D.lst) = some ls
  | [] => rfl
  | x :: r => by show (rowsOf (r.map D.lst)).map _ = _; rw [rowsOf_ll r]; rfl
theorem rowsOf_eq : ∀ {l : List D} {ls : List (List D)}, rowsOf l = some ls → l = ls.map D.lst
  | [], ls, h => by cases h; rfl
  | d :: r, ls, h => by
    cases d <;> try (cases h; done)
    rename_i x
    show _ = _
    cases e : rowsOf r with
    | none => simp [rowsOf, e] at h
    | some q =>
      simp [rowsOf, e] at h
      subst h
      rw [rowsOf_eq e]; rfl
def optLL : D → T
  | .lst l => match rowsOf l with | some ls => .ll (ls.map T.l) | none => .f (.lst l)
  | d => .f d
theorem optLL_ll (ls : List (List D)) : optLL (llD ls) = .ll (ls.map T.l) := by
  unfold llD optLL
  simp only [rowsOf_ll]
def shP : List Nat → List D → List T
  | 2 :: ks, d :: ds => optLL d :: shP ks ds
  | 1 :: ks, d :: ds => optT d :: shP ks ds
  | _ :: ks, d :: ds => .f d :: shP ks ds
  | [], ds => ds.map T.f
  | _ :: _, [] => []
def shPT (ks : List Nat) : D → T | .tup ds => .tt (shP ks ds) | d => .f d
def partLL (ds : List D) (n : Nat) : Option (List (List D)) := match ds[n]? with | some (.lst l) => rowsOf l | _ => none
theorem partLL_eq {ds : List D} {n : Nat} {ls : List (List D)} (h : partLL ds n = some ls) : ds[n]? = some (llD ls) := by
  unfold partLL at h
  split at h
  · rename_i l e
    rw [e, rowsOf_eq h]; rfl
  · cases h
theorem shP_get : ∀ (ks : List Nat) (ds : List D) (n : Nat) (d : D), ks[n]? = some 2 → ds[n]? = some d → (shP ks ds)[n]? = some (optLL d)
  | [], _, _, _, h, _ => by simp at h
  | k :: ks, [], n, _, _, h => by simp at h
  | k :: ks, d0 :: ds, 0, d, h, h2 => by simp at h h2; subst h; subst h2; rfl
  | 2 :: ks, d0 :: ds, n + 1, d, h, h2 => by
    show (optLL d0 :: shP ks ds)[n + 1]? = _
    simpa using shP_get ks ds n d (by simpa using h) (by simpa using h2)
  | 1 :: ks, d0 :: ds, n + 1, d, h, h2 => by
    show (optT d0 :: shP ks ds)[n + 1]? = _
    simpa using shP_get ks ds n d (by simpa using h) (by simpa using h2)
  | 0 :: ks, d0 :: ds, n + 1, d, h, h2 => by
    show (T.f d0 :: shP ks ds)[n + 1]? = _
    simpa using shP_get ks ds n d (by simpa using h) (by simpa using h2)
  | (k + 3) :: ks, d0 :: ds, n + 1, d, h, h2 => by
    show (T.f d0 :: shP ks ds)[n + 1]? = _
    simpa using shP_get ks ds n d (by simpa using h) (by simpa using h2)
theorem shP_set : ∀ (ks : List Nat) (ds : List D) (n : Nat) (d : D), ks[n]? = some 2 → shP ks (ds.set n d) = (shP ks ds).set n (optLL d)
  | [], _, _, _, h => by simp at h
  | k :: ks, [], n, _, _ => by
    have e : shP (k :: ks) [] = [] := by
      match k with
      | 0 => rfl
      | 1 => rfl
      | 2 => rfl
      | _ + 3 => rfl
    rw [List.set_nil, e, List.set_nil]
  | k :: ks, d0 :: ds, 0, d, h => by simp at h; subst h; rfl
  | 2 :: ks, d0 :: ds, n + 1, d, h => by
    show optLL d0 :: shP ks (ds.set n d) = optLL d0 :: (shP ks ds).set n (optLL d)
    rw [shP_set ks ds n d (by simpa using h)]
  | 1 :: ks, d0 :: ds, n + 1, d, h => by
    show optT d0 :: shP ks (ds.set n d) = optT d0 :: (shP ks ds).set n (optLL d)
    rw [shP_set ks ds n d (by simpa using h)]
  | 0 :: ks, d0 :: ds, n + 1, d, h => by
    show T.f d0 :: shP ks (ds.set n d) = T.f d0 :: (shP ks ds).set n (optLL d)
    rw [shP_set ks ds n d (by simpa using h)]
  | (k + 3) :: ks, d0 :: ds, n + 1, d, h => by
    show T.f d0 :: shP ks (ds.set n d) = T.f d0 :: (shP ks ds).set n (optLL d)
    rw [shP_set ks ds n d (by simpa using h)]
theorem ers_ll : ∀ ls : List (List D), T.ers (ls.map T.l) = ls.map D.lst
  | [] => rfl
  | x :: r => by show T.er (.l x) :: T.ers (r.map T.l) = _; rw [ers_ll r]; rfl
theorem optLL_er (d : D) : (optLL d).er = d := by
  cases d <;> try rfl
  rename_i l
  show ((match rowsOf l with | some ls => T.ll (ls.map T.l) | none => T.f (.lst l)) : T).er = .lst l
  cases e : rowsOf l with
  | some ls =>
    show D.lst (T.ers _) = _
    rw [ers_ll, ← rowsOf_eq e]
  | none => rfl
theorem ers_shP : ∀ (ks : List Nat) (ds : List D), T.ers (shP ks ds) = ds
  | [], ds => by
    have : shP [] ds = ds.map T.f := by cases ds <;> rfl
    rw [this]
    induction ds with
    | nil => rfl
    | cons d r ih => show d :: T.ers (r.map T.f) = _; rw [ih (by cases r <;> rfl)]
  | k :: ks, [] => by
    match k with
    | 0 => rfl
    | 1 => rfl
    | 2 => rfl
    | _ + 3 => rfl
  | 2 :: ks, d :: ds => by
    show (optLL d).er :: T.ers (shP ks ds) = _
    rw [optLL_er, ers_shP ks ds]
  | 1 :: ks, d :: ds => by
    show (optT d).er :: T.ers (shP ks ds) = _
    rw [optT_er, ers_shP ks ds]
  | 0 :: ks, d :: ds => by
    show d :: T.ers (shP ks ds) = _
    rw [ers_shP ks ds]
  | (k + 3) :: ks, d :: ds => by
    show d :: T.ers (shP ks ds) = _
    rw [ers_shP ks ds]
theorem er_pp (ks : List Nat) (ds : List D) : T.er (.tt (shP ks ds)) = .tup ds := by
  show D.tup (T.ers _) = _
  rw [ers_shP]
theorem shPT_er (ks : List Nat) (d : D) : (shPT ks d).er = d := by
  cases d <;> first | rfl | exact er_pp ks _
def phiG (n N : Nat) : Lab → Option Lab
  | 1 :: j :: x => if j = n then some (0 :: N :: x) else some (1 :: j :: x)
  | l => some l
def phiB (n N : Nat) : Lab → Option Lab
  | 0 :: i :: x => if i = N then some (1 :: n :: x) else some (0 :: i :: x)
  | 1 :: j :: x => if j = n then some (1 :: (n + 1) :: x) else some (1 :: j :: x)
  | l => some l
variable [EC]
section
variable {F : Fc} {tmp : Tmp} {s : State} {σ : St} {H : Hp} {v : V} {t : T}
/-- a temporary as one slot more, and back behind a call -/
theorem Holds.ghost (h : Holds F ((v, .own t) :: tmp) s σ H) : Holds F tmp (s ++ [some t]) (σ ++ [some v]) H := by
  obtain ⟨G, ω, h⟩ := h
  refine ⟨G, _, h.rl (phiG tmp.length s.length) _ _ tmp (by simp [h.len]) (fun k u e => ?_) ?_ fun k u e => ?_⟩
  · by_cases hk : k < s.length
    · rw [List.getElem?_append_left hk] at e
      obtain ⟨v', b1, b2⟩ := h.sl k u e
      exact ⟨v', by rw [List.getElem?_append_left (by rw [h.len]; exact hk)]; exact b1, Own.rl b2 fun x => by simp [phiG]⟩
    · have hk2 : k = s.length := by
        have := (List.getElem?_eq_some_iff.mp e).1
        simp at this; omega
      subst hk2
      rw [List.getElem?_append_right (Nat.le_refl _), Nat.sub_self] at e
      cases e
      exact ⟨v, by rw [List.getElem?_append_right (by rw [h.len]; exact Nat.le_refl _), h.len, Nat.sub_self]; rfl, Own.rl h.tm.1 fun x => by simp [phiG]⟩
  · have key : ∀ (tmp : Tmp) (ω : Addr → Option Lab), Tms G H ω σ tmp → Tms G H ω (σ ++ [some v]) tmp := by
      intro tmp
      induction tmp with
      | nil => intro _ _; trivial
      | cons x r ih =>
        obtain ⟨y, tm⟩ := x
        intro ω ⟨a, b⟩
        refine ⟨?_, ih ω b⟩
        cases tm with
        | own u => exact a
        | ali i =>
          have a' : σ[i]? = some (some y) := a
          show (σ ++ [some v])[i]? = some (some y)
          rw [List.getElem?_append_left (List.getElem?_eq_some_iff.mp a').1]; exact a'
    refine key tmp _ (Tms.rl tmp (fun j x hj => ?_) h.tm.2)
    have : ¬ j = tmp.length := by omega
    simp [phiG, this]
  · have := h.pn k u e
    rw [List.getElem?_append_left (List.getElem?_eq_some_iff.mp this).1]; exact this
theorem Holds.unghost {r : V} {tr u : T} (na : ∀ i ∈ tmp.filterMap (fun x => match x.2 with | .ali i => some i | .own _ => none), i < s.length) (hp : ∀ k v, F.pv k = some v → k < s.length) (h : Holds F ((r, .own tr) :: tmp) (s ++ [some u]) (σ ++ [some v]) H) : Holds F ((r, .own tr) :: (v, .own u) :: tmp) s σ H := by
  obtain ⟨G, ω, h⟩ := h
  have hlen : σ.length = s.length := by simpa using h.len
  obtain ⟨v', b1, b2⟩ := h.sl s.length u (by rw [List.getElem?_append_right (Nat.le_refl _), Nat.sub_self]; rfl)
  rw [List.getElem?_append_right (by omega), hlen, Nat.sub_self] at b1
  cases b1
  refine ⟨G, _, h.rl (phiB tmp.length s.length) _ _ _ hlen (fun k w e => ?_) ⟨Own.rl h.tm.1 fun x => by simp [phiB], Own.rl b2 fun x => by simp [phiB], ?_⟩ fun k w e => ?_⟩
  · have hk := (List.getElem?_eq_some_iff.mp e).1
    obtain ⟨v', c1, c2⟩ := h.sl k w (by rw [List.getElem?_append_left hk]; exact e)
    rw [List.getElem?_append_left (by omega)] at c1
    have : ¬ k = s.length := by omega
    exact ⟨v', c1, Own.rl c2 fun x => by simp [phiB, this]⟩
  · have key : ∀ (tmp : Tmp) (ω : Addr → Option Lab), (∀ i ∈ tmp.filterMap (fun x => match x.2 with | .ali i => some i | .own _ => none), i < s.length) → Tms G H ω (σ ++ [some v]) tmp → Tms G H ω σ tmp := by
      intro tmp
      induction tmp with
      | nil => intro _ _ _; trivial
      | cons x r ih =>
        obtain ⟨y, tm⟩ := x
        intro ω hn ⟨a, b⟩
        cases tm with
        | own u => exact ⟨a, ih ω (fun i hi => hn i (by simpa using hi)) b⟩
        | ali i =>
          have hi : i < s.length := hn i (by simp)
          have a' : (σ ++ [some v])[i]? = some (some y) := a
          rw [List.getElem?_append_left (by omega)] at a'
          exact ⟨a', ih ω (fun j hj => hn j (by simp only [List.filterMap_cons, List.mem_cons]; exact .inr hj)) b⟩
    refine key tmp _ na (Tms.rl tmp (fun j x hj => ?_) h.tm.2)
    have : ¬ j = tmp.length := by omega
    simp [phiB, this]
  · have := h.pn k w e
    have hk := hp k w e
    rw [List.getElem?_append_left (by omega)] at this; exact this
end
section
variable {R : Type} {F : Fc} {tmp : Tmp} {s : State} {m : Res R} {K : Rs R} {N : Rn R} {Rt : Rr R} {ta tb te ti : TE} {Kf : PySem.W.Frag}
theorem rd_fzP {ks : List Nat} {te : TE} (h : RD F tmp s te m (fun tm s1 m1 => ∃ d, tm = .own (shPT ks d) ∧ K (.own (.f d)) s1 m1)) : RD F tmp s te m K := rd_fz fun σ H Q hh nf eo q =>
  h σ H Q hh nf eo fun tm s' v H' ⟨d, e, hk⟩ h1 => q tm s' v H' ⟨shPT ks d, e, by rw [shPT_er]; exact hk⟩ h1
theorem rs_onP {i : Nat} {ks : List Nat} {r : D} {a : List D → Res R} {b : Res R} {t : TS} (hi : s[i]? = some (some (shPT ks r))) (em : m = onT r a b)
    (ha : ∀ ds, RS F tmp (s.set i (some (.tt (shP ks ds)))) (a ds) t N Rt) (hb : RS F tmp (s.set i (some (.f r))) b t N Rt) : RS F tmp s m t N Rt := by
  have key : ∀ u : T, s[i]? = some (some u) → s.set i (some u) = s := fun u h => by
    obtain ⟨hl, e⟩ := List.getElem?_eq_some_iff.mp h
    rw [← e]
    exact List.set_getElem_self hl
  subst em
  by_cases hr : ∃ ds, r = .tup ds
  · obtain ⟨ds, rfl⟩ := hr
    have := ha ds
    rw [key (.tt (shP ks ds)) hi] at this
    exact this
  · have e1 : shPT ks r = .f r := by cases r <;> first | rfl | exact absurd ⟨_, rfl⟩ hr
    have e2 : onT r a b = b := by cases r <;> first | rfl | exact absurd ⟨_, rfl⟩ hr
    rw [e1] at hi
    rw [key _ hi] at hb
    rw [e2]; exact hb
/-- f(y, x[n]), both changed in place -/
theorem rd_callP {A R' : Type} {ec : Nat → Addr} {ea : A → List T} {mir : A → Res R'} {er : R' → T} {eo : R' → List (Option T)} {E : XK} {i p n : Nat} {ks : List Nat} {ds : List D} {u0 : T} (hec : F.ec = ec) (hE : F.E = E)
    (hs : s[p]? = some (some (.tt (shP ks ds)))) (hk : ks[n]? = some 2) (hip : i ≠ p) (hu : s[i]? = some (some u0)) (na : ∀ j ∈ tmp.filterMap (fun x => match x.2 with | .ali i => some i | .own _ => none), j < s.length) (hp : ∀ k v, F.pv k = some v → k < s.length)
    (h : ∃ k0, m = ob (partLL ds n) k0 ∧ ∀ ls, ∃ (a : A) (k : R' → Res R), k0 ls = rb (mir a) k ∧ ea a = [u0, .ll (ls.map T.l)] ∧ ∀ r, ∃ u1 ls', eo r = [some u1, some (.ll (ls'.map T.l))] ∧ K (.own (er r)) ((s.set i (some u1)).set p (some (.tt (shP ks (ds.set n (llD ls')))))) (k r)) :
    RD F tmp s (tCall (spOf ec ea mir er eo) [] E (tCons (tVar i) (tCons (tOp (rIxA Kf) (tVar p) (tC (.int (n : Int)))) tNil))) m K := fun σ H Q hh nf eo' q => by
  obtain ⟨k0, em, h⟩ := h
  obtain ⟨ls, el, em'⟩ := ob_cases (by rw [← em]; exact nf)
  have e0 := partLL_eq el
  obtain ⟨a, k, ek, hea, hr⟩ := h ls
  have hg := shP_get ks ds n _ hk e0
  rw [optLL_ll] at hg
  obtain ⟨ad, vs, v, e1, ha, hl, hv, h4⟩ := hh.takeOutT hs hg
  have hpl : p < s.length := (List.getElem?_eq_some_iff.mp hs).1
  have hil : i < s.length := (List.getElem?_eq_some_iff.mp hu).1
  obtain ⟨x, ex⟩ : ∃ x, σ[i]? = some (some x) := by
    obtain ⟨G, ω, h1⟩ := hh
    obtain ⟨v', e, _⟩ := h1.sl i _ hu
    exact ⟨v', e⟩
  refine ⟨x, ex, .ref ad, e1, .inr (.inl ⟨ad, vs, (n : Int), v, rfl, rfl, .inl (.inl ha), ?_, ?_⟩)⟩
  · have hn : n < vs.length := (List.getElem?_eq_some_iff.mp hv).1
    unfold atI
    have : ixN vs.length (n : Int) = some n := by unfold ixN; simp; omega
    rw [this]; exact hv
  have hσ : σ.length = s.length := hh.len
  generalize hS : s.set p (some (.tt ((shP ks ds).set n (.hole v)))) = S at h4
  have hSl : S.length = s.length := by rw [← hS]; simp
  have h5 := h4.ghost
  have hSi : (S ++ [some (.ll (ls.map T.l))])[i]? = some (some u0) := by
    rw [List.getElem?_append_left (by omega), ← hS, List.getElem?_set_ne (fun z => hip z.symm)]; exact hu
  have hSN : (S ++ [some (T.ll (ls.map T.l))])[S.length]? = some (some (.ll (ls.map T.l))) := by
    rw [List.getElem?_append_right (Nat.le_refl _), Nat.sub_self]; rfl
  have hσi : (σ ++ [some v])[i]? = some (some x) := by rw [List.getElem?_append_left (by omega)]; exact ex
  have hσN : (σ ++ [some v])[S.length]? = some (some v) := by rw [List.getElem?_append_right (by omega), hσ, hSl, Nat.sub_self]; rfl
  have h6 : Holds F (pushes [x, v] [.ali i, .ali S.length] tmp) (S ++ [some (.ll (ls.map T.l))]) (σ ++ [some v]) H := by
    obtain ⟨G, ω, h7⟩ := h5
    exact ⟨G, ω, { h7 with tm := ⟨hσN, hσi, h7.tm⟩ }⟩
  refine call_core (K := fun tm s' m' => ∃ r u1 ls', tm = .own (er r) ∧ s' = (((S ++ [some (T.ll (ls.map T.l))]).set i (some u1)).set S.length (some (.ll (ls'.map T.l)))) ∧ K (.own (er r)) ((s.set i (some u1)).set p (some (.tt (shP ks (ds.set n (llD ls')))))) m') (tms := [.ali i, .ali S.length]) (vs := [x, v]) hec (.inl fun _ _ _ z => hE ▸ z) nf eo' (fun tm s' w H' ⟨r, u1, ls', e2, e3, hk2⟩ h8 => ?_) ⟨a, k, by rw [em, em', ek], ?_, ?_, fun r => ?_⟩ rfl h6
  · subst e2; subst e3
    have e4 : ((S ++ [some (T.ll (ls.map T.l))]).set i (some u1)).set S.length (some (.ll (ls'.map T.l))) = S.set i (some u1) ++ [some (.ll (ls'.map T.l))] := by
      rw [List.set_append_left _ _ (by omega), List.set_append_right _ _ (by simp)]
      simp
    rw [e4] at h8
    have h9 := h8.unghost (by simpa [hSl] using na) (fun k v e => by rw [List.length_set, hSl]; exact hp k v e)
    have h10 := Holds.putInT [(w, .own (er r))] (j := n) (i := p) (ts := (shP ks ds).set n (.hole v)) h9 (by rw [List.getElem?_set_ne hip, ← hS, List.getElem?_set_self hpl]) (by rw [List.getElem?_set_self (List.getElem?_eq_some_iff.mp hg).1])
    rw [List.set_set, ← hS] at h10
    rw [List.set_comm _ _ (fun z => hip z.symm), List.set_set] at h10
    rw [shP_set ks ds n _ hk, optLL_ll] at hk2
    exact q _ _ w H' hk2 h10
  · rw [hea]
    simp only [List.map, treeAt, hSi, hSN]
  · have : i ≠ S.length := by omega
    simp [aliNd, aIdx, this.symm]
  · obtain ⟨u1, ls', e5, hk2⟩ := hr r
    rw [e5]
    exact ⟨r, u1, ls', rfl, rfl, hk2⟩
theorem lenD_fl : ∀ a c, lenD a = some c → ∀ (G H : Hp) v, Rep H c v → Rep G c v := by
  intro a c e G H v r
  have : ∃ i, c = .int i := by
    cases a <;> first | (cases e; done) | (cases e; exact ⟨_, rfl⟩) | skip
    rename_i x
    simp only [lenD] at e
    split at e
    · cases e; exact ⟨_, rfl⟩
    · cases e
  obtain ⟨i, rfl⟩ := this
  exact r
/-- x[e] of a list of lists, compared -/
theorem rt_llB {i : Nat} {ls0 : List (List D)} {r : R2} {op : D → D → Option Bool} {K : Bool → State → Res R → Prop} (ho : Op2B r op) (hs : s[i]? = some (some (.ll (ls0.map T.l))))
    (h : ∀ x, RD F ((x, .ali i) :: tmp) s ti m (fun tm1 s1 m1 => ∃ (d : D) (ls : List (List D)) (k : Nat → Res R), valS s1 tm1 = some d ∧ s1[i]? = some (some (.ll (ls.map T.l))) ∧ m1 = ob (ixNd ls.length d) k ∧
      ∀ j v, RD F ((v, .own (.l (ls.getD j []))) :: tmp) (s1.set i (some (.ll ((ls.map T.l).set j (.hole v))))) tb (k j) (fun tm2 s2 m2 => ∃ b k2, s2[i]? = some (some (.ll ((ls.map T.l).set j (.hole v)))) ∧ valT s2 tm2 = some b ∧
        m2 = ob (op (.lst (ls.getD j [])) b) k2 ∧ ∀ c, K c (s2.set i (some (.ll (ls.map T.l)))) (k2 c)))) :
    RT F tmp s m (tTest (tOp r (tOp (rIxA Kf) (tVar i) ti) tb)) K := fun σ H Q hh nf eo q => by
  refine rd_take hs hh nf eo fun x => fun σ' H' Q' hh' nf' eo' q' => h x σ' H' Q' hh' nf' eo' fun tm1 s1 y H1 ⟨d, ls, k, ed, hi, em, hk⟩ h1 => q' tm1 s1 y H1 ⟨d, ls, k, ed, hi, em, fun j hj v H2 em2 h2 => ?_⟩ h1
  have hkj := hk j v
  rw [← em2] at hkj
  refine hkj σ H2 _ h2 nf eo fun tm2 s2 w H3 ⟨b, k2, hi2, eb, em3, hk2⟩ h3 => ?_
  obtain ⟨c, ec, em4⟩ := ob_cases (by rw [← em3]; exact nf)
  have hjl : j < ls.length := (List.getElem?_eq_some_iff.mp hj).1
  have h5 := h3
  obtain ⟨G, ω, h4⟩ := h3
  have h7 := Holds.putIn [] (j := j) (t := .l (ls.getD j [])) (v := v) h5.pop hi2 (by rw [List.getElem?_set_self (by simpa using hjl)])
  rw [List.set_set, ll_back hj] at h7
  exact ho H3 v w (.lst (ls.getD j [])) b c _ (h4.repT h4.tm.2.1 rfl) (h4.repT h4.tm.1 eb) ec ⟨c, rfl, q _ _ H3 (by rw [em3, em4]; exact hk2 c) h7⟩
/-- a built-in of x[e] that tells a number -/
theorem rd_llUn {i : Nat} {ls0 : List (List D)} {r : List V → Hp → VK → Prop} {op : D → Option D} (ho : Op1C (fun x H Q => r [x] H Q) op) (fl : ∀ a c, op a = some c → ∀ (G H : Hp) v, Rep H c v → Rep G c v) (hs : s[i]? = some (some (.ll (ls0.map T.l))))
    (h : ∀ x, RD F ((x, .ali i) :: tmp) s ti m (fun tm1 s1 m1 => ∃ (d : D) (ls : List (List D)) (k : Nat → Res R), valS s1 tm1 = some d ∧ s1[i]? = some (some (.ll (ls.map T.l))) ∧ m1 = ob (ixNd ls.length d) k ∧
      ∀ j, ∃ k2, k j = ob (op (.lst (ls.getD j []))) k2 ∧ ∀ c, K (.own (.f c)) s1 (k2 c))) :
    RD F tmp s (tCB r (tCons (tOp (rIxA Kf) (tVar i) ti) tNil)) m K := fun σ H Q hh nf eo q => by
  refine rd_take hs hh nf eo fun x => fun σ' H' Q' hh' nf' eo' q' => h x σ' H' Q' hh' nf' eo' fun tm1 s1 y H1 ⟨d, ls, k, ed, hi, em, hk⟩ h1 => q' tm1 s1 y H1 ⟨d, ls, k, ed, hi, em, fun j hj v H2 em2 h2 => ?_⟩ h1
  obtain ⟨k2, ek, hk2⟩ := hk j
  obtain ⟨c, ec, em4⟩ := ob_cases (by rw [← ek, ← em2]; exact nf)
  have hjl : j < ls.length := (List.getElem?_eq_some_iff.mp hj).1
  have h5 := h2
  obtain ⟨G, ω, h4⟩ := h2
  have hil : i < s1.length := (List.getElem?_eq_some_iff.mp hi).1
  have h7 := Holds.putIn [] (j := j) (t := .l (ls.getD j [])) (v := v) h5 (List.getElem?_set_self hil) (by rw [List.getElem?_set_self (by simpa using hjl)])
  rw [List.set_set, List.set_set, ll_back hj, set_same hi] at h7
  exact ho G H2 v (.lst (ls.getD j [])) c _ h4.gH (h4.repC h4.tm.1 rfl) ec fun w rw_ => q _ _ w _ (by rw [em2, ek, em4]; exact hk2 c) (holds_push h7 fun G' => fl _ c ec _ _ w rw_)
end
end VL

namespace VL
open PySem L2
variable [EC]
section
variable {R : Type} {F : Fc} {tmp : Tmp} {s : State} {m : Res R} {K : Rs R} {N : Rn R} {Rt : Rr R} {ta tb te ti : TE} {Kf : PySem.W.Frag}
/-- x[n][y][c] = e, x an own tuple with an own list of lists at n -/
theorem rs_pset {p y n c : Nat} {ks : List Nat} (hk : ks[n]? = some 2) (hyp : y ≠ p) (na : ∀ j ∈ tmp.filterMap (fun x => match x.2 with | .ali i => some i | .own _ => none), j < s.length) (hp : ∀ k v, F.pv k = some v → k < s.length)
    (h : RD F tmp s te m (fun tm1 s1 m1 => ∃ (d : D) (ds : List D) (dy : D) (k3 : List (List D) → Nat → List D → Res R), tm1 = .own (.f d) ∧ s1.length = s.length ∧ s1[p]? = some (some (.tt (shP ks ds))) ∧ s1[y]? = some (some (.f dy)) ∧
      m1 = (ob (partLL ds n) fun ls => ob (ixNd (List.length ls) dy) fun j => ob (setL (ls.getD j []) (.int (c : Int)) d) fun l => k3 ls j l) ∧
      ∀ ls j l, partLL ds n = some ls → N (s1.set p (some (.tt (shP ks (ds.set n (llD (ls.set j l))))))) (k3 ls j l))) :
    RS F tmp s m (tAsg te (gSub (tOp (rIxA Kf) (tOp (rIxA Kf) (tVar p) (tC (.int (n : Int)))) (tVar y)) (tC (.int (c : Int))) rSetL)) N Rt := fun σ H De hh nf eo nx rt =>
  h σ H _ hh nf eo fun tm1 s1 v H1 ⟨d, ds, dy, k3, e1, hsl, hs, hy, em, hN⟩ h1 => by
    subst e1
    obtain ⟨ls, el, em2⟩ := ob_cases (by rw [← em]; exact nf)
    obtain ⟨j, ej, em3⟩ := ob_cases (by rw [← em2, ← em]; exact nf)
    obtain ⟨l, ec, em4⟩ := ob_cases (by rw [← em3, ← em2, ← em]; exact nf)
    have e0 := partLL_eq el
    have hg := shP_get ks ds n _ hk e0
    rw [optLL_ll] at hg
    obtain ⟨ad, vs, v0, f1, ha, hl, hv, h4⟩ := h1.takeOutT hs hg
    have hpl : p < s1.length := (List.getElem?_eq_some_iff.mp hs).1
    have hyl : y < s1.length := (List.getElem?_eq_some_iff.mp hy).1
    have hσ : σ.length = s1.length := h1.len
    obtain ⟨yv, ey⟩ : ∃ x, σ[y]? = some (some x) := by
      obtain ⟨G, ω, h5⟩ := h1
      obtain ⟨v', e, _⟩ := h5.sl y _ hy
      exact ⟨v', e⟩
    refine ⟨.ref ad, f1, .inr (.inl ⟨ad, vs, (n : Int), v0, rfl, rfl, .inl (.inl ha), ?_, ?_⟩)⟩
    · have hn : n < vs.length := (List.getElem?_eq_some_iff.mp hv).1
      unfold atI
      have : ixN vs.length (n : Int) = some n := by unfold ixN; simp; omega
      rw [this]; exact hv
    refine ⟨yv, ey, ?_⟩
    have hz : j < ls.length ∧ ∃ z, yv = .int z ∧ ixN ls.length z = some j := by
      obtain ⟨G, ω, h5⟩ := h1
      obtain ⟨v', e, ow⟩ := h5.sl y _ hy
      rw [ey] at e; cases e
      exact ixNd_ok ej (show Rep G dy yv from ow)
    obtain ⟨jl, z, rfl, hz⟩ := hz
    generalize hS : s1.set p (some (.tt ((shP ks ds).set n (.hole v0)))) = S at h4
    have hSl : S.length = s1.length := by rw [← hS]; simp
    have h5 := h4.ghost
    have hj : ls[j]? = some (ls.getD j []) := by rw [List.getD_eq_getElem?_getD, List.getElem?_eq_getElem jl]; rfl
    have hSN : (S ++ [some (T.ll (ls.map T.l))])[S.length]? = some (some (.ll (ls.map T.l))) := by
      rw [List.getElem?_append_right (Nat.le_refl _), Nat.sub_self]; rfl
    obtain ⟨a2, vs2, w, f2, ha2, hl2, hv2, h6⟩ := h5.takeOut hSN (t := .l (ls.getD j [])) (j := j) (by rw [List.getElem?_map, hj]; rfl)
    have hσN : (σ ++ [some v0])[S.length]? = some (some v0) := by rw [List.getElem?_append_right (by omega), hσ, hSl, Nat.sub_self]; rfl
    rw [hσN] at f2; cases f2
    refine .inl ⟨a2, vs2, z, w, rfl, rfl, .inl (.inl ha2), ?_, ?_⟩
    · unfold atI
      rw [hl2, List.length_map, hz]
      exact hv2
    simp only [setL] at ec
    cases e4 : ixN (ls.getD j []).length (c : Int) with
    | none => rw [e4] at ec; cases ec
    | some i =>
      rw [e4] at ec
      cases ec
      obtain ⟨a, e⟩ : ∃ a, w = .ref a := by
        obtain ⟨G, ω, h7⟩ := h6
        obtain ⟨a, vs, e, _⟩ := h7.tm.1
        exact ⟨a, e⟩
      subst e
      obtain ⟨vs3, ha3, hl3, hset⟩ := h6.wrTmpSet
      refine ⟨a, vs3, (c : Int), i, rfl, rfl, ha3, by rw [hl3]; exact e4, ?_⟩
      have hSN' : ((S ++ [some (T.ll (ls.map T.l))]).set S.length (some (.ll ((ls.map T.l).set j (.hole (.ref a))))))[S.length]? = some (some (.ll ((ls.map T.l).set j (.hole (.ref a))))) := List.getElem?_set_self (by simp)
      have h7 := Holds.putIn [] (j := j) (hset i) hSN' (by rw [List.getElem?_set_self (by simpa using jl)])
      rw [List.set_set, List.set_set] at h7
      have h8 : (ls.map T.l).set j (.l ((ls.getD j []).set i d)) = (ls.set j ((ls.getD j []).set i d)).map T.l := by rw [List.map_set]
      rw [h8] at h7
      have e9 : ((S ++ [some (T.ll (ls.map T.l))]).set S.length (some (.ll ((ls.set j ((ls.getD j []).set i d)).map T.l)))) = S ++ [some (.ll ((ls.set j ((ls.getD j []).set i d)).map T.l))] := by
        rw [List.set_append_right _ _ (Nat.le_refl _)]
        simp
      rw [e9] at h7
      have h9 := Holds.unghost (r := v) (tr := .f d) (fun i hi => by rw [hSl, hsl]; exact na i hi) (fun k v e => by rw [hSl, hsl]; exact hp k v e) h7
      have h10 := Holds.putInT [(v, .own (.f d))] (j := n) (i := p) (ts := (shP ks ds).set n (.hole (.ref a2))) h9 (by rw [← hS, List.getElem?_set_self hpl]) (by rw [List.getElem?_set_self (List.getElem?_eq_some_iff.mp hg).1])
      rw [List.set_set, ← hS, List.set_set] at h10
      have h11 := hN ls j ((ls.getD j []).set i d) el
      rw [shP_set ks ds n _ hk, optLL_ll] at h11
      exact nx _ σ _ (by rw [em, em2, em3, em4]; exact h11) h10.pop
end
end VL

namespace VL
open PySem L2
/-! reading in place: what is read is told of the heap as it stands -/
def flatD (d : D) : Option D := if d.flat = true then some d else none
variable [EC]
section
variable {R : Type} {F : Fc} {tmp : Tmp} {s : State} {m : Res R} {K : Rs R} {N : Rn R} {Rt : Rr R} {ta tb te ti : TE} {Kf : PySem.W.Frag}
def RP (F : Fc) (tmp : Tmp) (s : State) (te : TE) (m : Res R) (K : D → Res R → Prop) : Prop :=
  ∀ σ H Q, Holds F tmp s σ H → m ≠ .fail → (∀ v d, Rep H d v → K d m → Q v H) → te σ H Q
theorem rp_var {i : Nat} {t : T} {K : D → Res R → Prop} (hs : s[i]? = some (some t)) (h : K t.er m) : RP F tmp s (tVar i) m K := fun σ H Q hh nf q => by
  obtain ⟨G, ω, h1⟩ := hh
  obtain ⟨v, e, ow⟩ := h1.sl i _ hs
  exact ⟨v, e, q v _ (Own.rep h1.gH _ t v (fun a x _ o ho => ho) ow) h⟩
theorem rp_int {i : Int} {K : D → Res R → Prop} (h : K (.int i) m) : RP F tmp s (tC (.int i)) m K := fun σ H Q hh nf q => q _ (.int i) rfl h
theorem rp_ix {K : D → Res R → Prop} (h : RP F tmp s ta m (fun a m1 => RP F tmp s tb m1 (fun b m2 => ∃ k, m2 = ob (ixD a b) k ∧ ∀ c, K c (k c)))) : RP F tmp s (tOp (rIxA Kf) ta tb) m K := fun σ H Q hh nf q =>
  h σ H _ hh nf fun x a ra hb => hb σ H _ hh nf fun y b rb ⟨k, em, hk⟩ => by
    obtain ⟨c, ec, em'⟩ := ob_cases (by rw [← em]; exact nf)
    exact o_ix H H x y a b c Q (Same.refl _) (Rep.toC (Same.refl _) ra) (Rep.toC (Same.refl _) rb) ec fun v rv => q v c rv (by rw [em, em']; exact hk c)
/-- .. and told, where it is flat -/
theorem rd_flat (h : RP F tmp s te m (fun d m1 => ∃ k, m1 = ob (flatD d) k ∧ ∀ c, K (.own (.f c)) s (k c))) : RD F tmp s te m K := fun σ H Q hh nf eo q =>
  h σ H _ hh nf fun v d rv ⟨k, em, hk⟩ => by
    obtain ⟨c, ec, em'⟩ := ob_cases (by rw [← em]; exact nf)
    unfold flatD at ec
    split at ec
    · cases ec
      rename_i hf
      refine q _ s v H (by rw [em, em']; exact hk d) ?_
      obtain ⟨G, ω, h1⟩ := hh
      exact ⟨G, ω, h1.pushF (Rep.flat hf rv)⟩
    · cases ec
/-- a built-in of it that tells a number -/
theorem rd_rpUn {r : List V → Hp → VK → Prop} {op : D → Option D} (ho : Op1C (fun x H Q => r [x] H Q) op) (fl : ∀ a c, op a = some c → ∀ (G H : Hp) v, Rep H c v → Rep G c v)
    (h : RP F tmp s te m (fun d m1 => ∃ k, m1 = ob (op d) k ∧ ∀ c, K (.own (.f c)) s (k c))) : RD F tmp s (tCB r (tCons te tNil)) m K := fun σ H Q hh nf eo q =>
  h σ H _ hh nf fun x d rx ⟨k, em, hk⟩ => by
    obtain ⟨c, ec, em'⟩ := ob_cases (by rw [← em]; exact nf)
    obtain ⟨G, ω, h1⟩ := hh
    exact ho H H x d c Q (Same.refl _) (Rep.toC (Same.refl _) rx) ec fun v rv => q _ s v H (by rw [em, em']; exact hk c) ⟨G, ω, h1.pushF (fl d c ec _ _ v rv)⟩
/-- it compared with an empty list -/
theorem rt_rpNil {r : R2} {op : D → D → Option Bool} {K : Bool → State → Res R → Prop} (ho : Op2B r op) (h : RP F tmp s ta m (fun a m1 => ∃ k, m1 = ob (op a (.lst [])) k ∧ ∀ c, K c s (k c))) :
    RT F tmp s m (tTest (tOp r ta (tLst tNil))) K := fun σ H Q hh nf eo q =>
  h σ H _ hh nf fun x a rx ⟨k, em, hk⟩ => by
    obtain ⟨c, ec, em'⟩ := ob_cases (by rw [← em]; exact nf)
    refine ⟨Nat.zero_le _, fun p hp => ?_⟩
    have sm : Same H (upd H p (.lst [])) := fun a u e => upd_keep hp e
    obtain ⟨G, ω, h1⟩ := hh
    have h2 := h1.newL (ds := []) (vs := []) hp (Nat.zero_le _) rfl
    refine ho _ x (.ref p) a (.lst []) c _ (Rep.mono sm a x rx) ?_ ec ⟨c, rfl, q _ s _ (by rw [em, em']; exact hk c) h2.pop⟩
    obtain ⟨G2, ω2, h3⟩ := h2
    exact h3.repT h3.tm.1 rfl
/-- it compared with what is read in place, too -/
theorem rt_rp2 {r : R2} {op : D → D → Option Bool} {K : Bool → State → Res R → Prop} (ho : Op2B r op) (h : RP F tmp s ta m (fun a m1 => RP F tmp s tb m1 (fun b m2 => ∃ k, m2 = ob (op a b) k ∧ ∀ c, K c s (k c)))) :
    RT F tmp s m (tTest (tOp r ta tb)) K := fun σ H Q hh nf eo q =>
  h σ H _ hh nf fun x a rx hb => hb σ H _ hh nf fun y b ry ⟨k, em, hk⟩ => by
    obtain ⟨c, ec, em'⟩ := ob_cases (by rw [← em]; exact nf)
    exact ho _ x y a b c _ rx ry ec ⟨c, rfl, q _ s _ (by rw [em, em']; exact hk c) hh⟩
end
end VL

namespace SSN
open PySem PySem.Spec PyProof.Rows SS
def ddp {α : Type} [BEq α] (l : List α) : List α := l.foldl step_dedup []
theorem ddp_snoc {α : Type} [BEq α] (l : List α) (x : α) : ddp (l ++ [x]) = step_dedup (ddp l) x := by simp [ddp]
theorem step_lenS {α : Type} [BEq α] (σ : List α) (v : α) : (step_dedup σ v).length = if σ.any (· == v) then σ.length else σ.length + 1 := by
  unfold step_dedup; split <;> simp
theorem step_anyS (σ : List Str) (v k : Str) : (step_dedup σ v).any (· == k) = (σ.any (· == k) || decide (k = v)) := by
  unfold step_dedup
  by_cases h : σ.any (· == v) = true
  · rw [if_pos h]
    by_cases e : k = v
    · subst e; rw [h]; simp
    · simp [e]
  · rw [if_neg h, List.any_append]
    by_cases e : k = v
    · subst e; simp
    · have hb : (v == k) = false := by simpa [beq_iff_eq] using (fun h' : v = k => e h'.symm)
      simp [hb, e]
theorem ddp_len {α : Type} [BEq α] (l : List α) : (ddp l).length ≤ l.length := by
  have key : ∀ (l σ : List α), (l.foldl step_dedup σ).length ≤ σ.length + l.length := by
    intro l
    induction l with
    | nil => intro σ; simp
    | cons x r ih =>
      intro σ
      have h1 := ih (step_dedup σ x)
      have h2 : (step_dedup σ x).length ≤ σ.length + 1 := by rw [step_lenS]; split <;> omega
      simp only [List.foldl_cons, List.length_cons]
      omega
  simpa [ddp] using key l []
section
variable {prog : Program} {w : World} {A : Around} {R : Result → Shared → Prop} {I : Addr} {fp wr : List Addr} {G : Array GenState → Array GenState → Prop} {n : Nat} {P : Nat → Value → Prop} {St : Nat → Shared → Prop}
theorem loopStrN (W : WalksS prog w A.in1 I fp wr G n P St) (S : Addr) (hSf : S ∉ fp) (xs : List Str) (hsz : xs.length = n) (hn1 : n ≤ 4000)
    (hval : ∀ i v, P i v → ∃ t, v = .str (xs.getD i Str.empty) t) :
    ∀ (k i : Nat) (s : Shared), n - i = k → i ≤ n → St i s →
      s.heap.SetOf (PySem.strKind prog w) S (fun k' => (ddp (xs.take i)).any (· == k')) (ddp (xs.take i)).length →
      (∀ s', Moved (S :: wr) G s s' → s'.heap.SetOf (PySem.strKind prog w) S (fun k' => (ddp (xs.take n)).any (· == k')) (ddp (xs.take n)).length → R (.ok (.ret .none)) s') →
      codeAny (model prog w) A (.builtin "set.update.loop" ⟨[.ref S, .ref I], []⟩) R s := by
  have hSw : S ∉ wr := fun h => hSf (W.sub _ h)
  have hsub : ∀ b ∈ wr, b ∈ S :: wr := fun b hb => List.mem_cons_of_mem _ hb
  intro k
  induction k with
  | zero =>
    intro i s hk hi hst hS hR
    have hin : i = n := by omega
    subst hin
    refine codeAny_builtin PyProof.Rows.F.entry_set_update_loop ?_
    rw [Around.under_plainId PyProof.Rows.F.plain_set_update_loop _]
    show wpAny _ A.in1 (pyNext (.ref I) >>= _) _ _ s
    refine wpAny_bind (W.done s _ _ hst fun s' hm => ?_)
    show wpAny _ A.in1 (ret Value.none) _ _ s'
    exact wpAny_pure (hR s' (hm.mono hsub) (by
      obtain ⟨o, es, ep, t, ho, rest⟩ := hS
      exact ⟨o, es, ep, t, hm.heap S _ hSw ho, rest⟩))
  | succ k ih =>
    intro i s hk hi hst hS hR
    have hlt : i < n := by omega
    refine codeAny_builtin PyProof.Rows.F.entry_set_update_loop ?_
    rw [Around.under_plainId PyProof.Rows.F.plain_set_update_loop _]
    show wpAny _ A.in1 (pyNext (.ref I) >>= _) _ _ s
    refine wpAny_bind (W.item i s _ _ hlt hst fun v s' hP hst' hm => ?_)
    obtain ⟨t, rfl⟩ := hval i v hP
    have hS' : s'.heap.SetOf (PySem.strKind prog w) S (fun k' => (ddp (xs.take i)).any (· == k')) (ddp (xs.take i)).length := by
      obtain ⟨o, es, ep, tb, ho, rest⟩ := hS
      exact ⟨o, es, ep, tb, hm.heap S _ hSw ho, rest⟩
    show wpAny _ A.in1 (holding [Value.str (xs.getD i Str.empty) t] (setAdd S (.str (xs.getD i Str.empty) t)) >>= _) _ _ s'
    refine wpAny_bind (wpAny_holding ?_)
    unfold setAdd
    refine wpAny_holding ?_
    refine wpAny_bind ((PySem.strKind prog w).pyHash (k := xs.getD i Str.empty) (strKind_is _ _ _ _) ?_)
    have hle := ddp_len (xs.take i)
    rw [List.length_take] at hle
    refine wpAny_setAddHashed_of (knd := PySem.strKind prog w) (s := { s' with toks := s'.toks + 1 }) (strKind_is _ _ _ _) rfl hS' (by unfold scanBound; omega) fun h' hsb hS2 => ?_
    have hSi : h'.SetOf (PySem.strKind prog w) S (fun k' => (ddp (xs.take (i + 1))).any (· == k')) (ddp (xs.take (i + 1))).length := by
      have e0 : xs.getD i Str.empty = xs[i]'(by omega) := by rw [List.getD_eq_getElem?_getD, List.getElem?_eq_getElem (by omega)]; rfl
      have e1 : ddp (xs.take (i + 1)) = step_dedup (ddp (xs.take i)) (xs.getD i Str.empty) := by
        rw [List.take_add_one, List.getElem?_eq_getElem (by omega), e0]
        exact ddp_snoc _ _
      exact SetOf_congr hS2 (fun k' => by rw [e1, step_anyS]) (by rw [e1, step_lenS])
    refine wpAny_pure ⟨plainId_quiet PyProof.Rows.F.plain_set_update_loop _, ih (i + 1) _ (by omega) hlt (W.frame _ s' _ _ hst' (Nat.le_succ _) fun b hb o e => ?_) hSi fun s'' hm'' hS'' => ?_⟩
    · rw [hsb.2 b (fun h : b = S => hSf (by rw [← h]; exact hb))]; exact e
    · refine hR s'' (Moved.trans W.gtrans ((hm.mono hsub).then_heap (Nat.le_succ _) fun b o hb e => ?_) hm'') hS''
      rw [hsb.2 b (fun h : b = S => hb (by rw [h]; exact List.mem_cons_self))]; exact e
end
section
variable {prog : Program} {w : World} {A : Around} {E : Value → Shared → Prop} {s : Shared}
set_option maxHeartbeats 3200000 in
theorem call_set_listSN {l : Addr} {items : Array Value} {xs : List Str} {Q : Value → Shared → Prop}
    (hh : A.handled = none) (hl : s.heap.IsList l items) (hi : PyProof.Rows.StrsAre items.toList xs) (hn1 : xs.length ≤ 4000)
    (h : ∀ (h' : Heap) (tk : Nat), h'.SetOf (PySem.strKind prog w) s.heap.objs.size (fun k' => (ddp (xs.take items.size)).any (· == k')) (ddp (xs.take items.size)).length →
      (∀ b o, b < s.heap.objs.size → s.heap.get? b = some o → h'.get? b = some o) → Q (.ref s.heap.objs.size) { s with heap := h', toks := tk }) :
    wpAny (model prog w) A (call (.type "set") [.ref l]) Q E s := by
  obtain ⟨c, tl, hmro⟩ := PySem.F.called_set.mro
  have hmade := PySem.F.called_set.made
  have hsub := PySem.F.called_set.sub
  refine wpAny_call (codeAny_of_tree ?_)
  show wpAny _ _ (callAny (.type "set") _) _ _ _
  refine wpAny_pure ⟨Code.quiet_builtin _ (by decide +kernel), codeAny_builtin PySem.F.entry_type_call ?_⟩
  rw [Around.under_plain (weight_type_call_type "set" [.ref l] []) rfl]
  have h1 := PySem.F.called_set.notType
  have h2 := PySem.F.called_set.canCreate
  have hct := PySem.F.typeCall_set_1 (.ref l)
  repeat (any_goals (first | assumption | wp_step))

  refine codeAny_mono (code_set_new_1 (.ref l) (E := E) (Q₁ := fun obj s₁ => ∃ led : Bool, obj = .ref s.heap.objs.size ∧ s₁ = { s with heap := s.heap.push { cls := .type "set", dict := none, data := .set #[] 0 (.fresh 0 0 led) } }) fun led => ⟨led, rfl, rfl⟩) fun r s₁ hr => ?_
  cases r with
  | error e => exact hr
  | ok fl =>
    cases fl with
    | ret obj =>
      obtain ⟨led, rfl, rfl⟩ := hr
      have hS : (s.heap.push { cls := .type "set", dict := none, data := .set #[] 0 (.fresh 0 0 led) }).get? s.heap.objs.size = some { cls := .type "set", dict := none, data := .set #[] 0 (.fresh 0 0 led) } := Heap.get?_push_size _ rfl
      have hT : Shared.TypeIs { s with heap := s.heap.push { cls := .type "set", dict := none, data := .set #[] 0 (.fresh 0 0 led) } } (.ref s.heap.objs.size) "set" := ⟨_, hS, rfl⟩
      have hli := PySem.F.called_set.init.lookup
      have hbi := PySem.F.called_set.init.bind (.ref s.heap.objs.size)
      repeat (any_goals (first | assumption | wp_step))

      refine codeAny_mono (codeAny_call_builtin (R := wants (fun r s₂ => r = .none ∧ ∃ h' tk, s₂ = { s with heap := h', toks := tk } ∧
          h'.SetOf (PySem.strKind prog w) s.heap.objs.size (fun k' => (ddp (xs.take items.size)).any (· == k')) (ddp (xs.take items.size)).length ∧
          (∀ b o, b < s.heap.objs.size → s.heap.get? b = some o → h'.get? b = some o)) E) PySem.F.called_set.init.plain PySem.F.entry_set_init (check_set_init_1 hT ?_)) fun r₂ s₂ hr₂ => ?_
      · obtain ⟨ol, hol, hcl, nl, hdl⟩ := hl
        obtain ⟨ocls, odict, odata, oslots⟩ := ol
        simp only at hcl hdl
        subst hcl; subst hdl
        have hol' : (s.heap.push { cls := .type "set", dict := none, data := .set #[] 0 (.fresh 0 0 led) }).get? l = some { cls := .type "list", dict := odict, data := .seq items nl, slots := oslots } := Heap.get?_push_of_some _ hol
        have hsls := PySem.F.sub_list_set
        have hslf := PySem.F.sub_list_frozenset
        have hne : (Value.type "list" == Value.type "dict") = false := by decide
        have hl1 : (s.heap.push { cls := .type "set", dict := none, data := .set #[] 0 (.fresh 0 0 led) }).IsList l items := ⟨_, hol', rfl, nl, rfl⟩
        unfold Builtin.«set.__init__» noKeywords Builtin.Frozenset.updateFrom
        generalize hPI : pyIter = PI
        wp_walk
        subst hPI

        refine wpAny_pyIter_list hl1 ?_
        refine wpAny_bind (wpAny_runValue ?_)
        have hlS : l < s.heap.objs.size := Heap.lt_size hol
        have hh3 : A.in1.in1.in1.handled = none := by simp [hh]
        have hneI : l ≠ (s.heap.push { cls := .type "set", dict := none, data := .set #[] 0 (.fresh 0 0 led) }).objs.size := by
          rw [Heap.size_push]; exact Nat.ne_of_lt (Nat.lt_succ_of_lt hlS)
        have hSf : s.heap.objs.size ∉ [(s.heap.push { cls := .type "set", dict := none, data := .set #[] 0 (.fresh 0 0 led) }).objs.size, l] := by
          rw [Heap.size_push]; simp only [List.mem_cons, List.mem_singleton, List.not_mem_nil, or_false, not_or]
          exact ⟨Nat.ne_of_lt (Nat.lt_succ_self _), Nat.ne_of_gt hlS⟩
        have hsz : xs.length = items.size := by rw [← StrsAre.len_eq hi, Array.length_toList]
        have hval : ∀ (i : Nat) (v : Value), items[i]? = some v → ∃ t, v = .str (xs.getD i Str.empty) t := fun i v hv => strs_at hi i v (by rw [Array.getElem?_toList]; exact hv)
        refine loopStrN ((Walks.list hh3 _ l hneI items).toS) s.heap.objs.size
          hSf xs hsz (by rw [← hsz]; exact hn1) hval (items.size - 0) 0 _ (by omega) (Nat.zero_le _)
          ⟨⟨_, Heap.get?_push_size _ rfl, rfl, rfl⟩, (hl1.push _)⟩ ?hS0 ?hR
        case hS0 =>
          have hget : ((s.heap.push { cls := .type "set", dict := none, data := .set #[] 0 (.fresh 0 0 led) }).push { cls := .type "list_iterator", data := .fields #[.ref l, .int 0 0] }).get? s.heap.objs.size
              = some { cls := .type "set", dict := none, data := .set #[] 0 (.fresh 0 0 led) } := Heap.get?_push_of_some _ hS
          exact PyProof.Rows.SetOf_congr ((PyProof.Rows.setObjOf_fresh (knd := PySem.strKind prog w) led).setOf hget (by unfold scanBound; omega)) (fun _ => rfl) rfl
        case hR =>
          intro s' hm hS'
          obtain ⟨h', g', d', tk', os'⟩ := s'
          have eg : g' = s.gens := hm.gens
          have ed : d' = s.drawn := hm.drawn
          have eo : os' = s.os := hm.os
          subst eg; subst ed; subst eo
          show wpAny _ _ _ _ _ _
          refine wpAny_pure ?_
          show wpAny _ _ (ret Value.none) _ _ _
          refine wpAny_pure ⟨rfl, h', tk', rfl, hS', fun b o hb e => ?_⟩
          have hb1 : b ≠ s.heap.objs.size := Nat.ne_of_lt hb
          have hb2 : b ≠ (s.heap.push { cls := .type "set", dict := none, data := .set #[] 0 (.fresh 0 0 led) }).objs.size := by
            rw [Heap.size_push]; exact Nat.ne_of_lt (Nat.lt_succ_of_lt hb)
          exact hm.heap b o (by simp only [List.mem_cons, List.mem_singleton, List.not_mem_nil, or_false, not_or]; exact ⟨hb1, hb2⟩) (Heap.get?_push_of_some _ (Heap.get?_push_of_some _ e))

      · cases r₂ with
        | error e => exact hr₂
        | ok fl₂ =>
          cases fl₂ with
          | ret r =>
            obtain ⟨rfl, h', tk, rfl, hS', hk'⟩ := hr₂
            repeat (any_goals (first | assumption | wp_step))
            exact h _ _ hS' hk'
          | _ => exact hr₂.elim
    | _ => exact hr.elim

end
end SSN

namespace VL
open PySem L2 PySem.Spec PyProof.Rows SSN
def tLenSetN (K : PySem.W.Frag) (ta : TE) : TE := fun σ H Q => ta σ H fun x H1 => ∃ (l : Addr) (xs : List Str), x = .ref l ∧ SqL K H1 l (xs.map V.str) ∧ xs.length ≤ 4000 ∧ Q (.int ((ddp xs).length : Nat)) H1
theorem pe_lenSetN {X : Cx} {Kf : PySem.W.Frag} {a : Expr} {ta : TE} {p p2 q pos : Pos} (hK : X.K = Kf) (hc : X.calm = true) (hg : Gl X "len") (hm : X.mg "len" = none) (hg2 : Gl X "set") (hm2 : X.mg "set" = none) (ha : PE X a ta)
    (na : starEach [a] X.env = (false, eval a X.env) :: starEach [] X.env := by rfl) : PE X (.Call (.Name "len" p) [.Call (.Name "set" p2) [a] [] q] [] pos) (tLenSetN Kf ta) := by
  subst hK
  refine ⟨fun pins s σ H Q I h => ?_⟩
  refine Call_ (ld_blt I hg hm PySem.boot_len ?_)
  refine PyProof.Rows.callWith_builtin1 (PyProof.Rows.args_cons ?_ rfl) rfl rfl
  refine Call_ (ld_blt I hg2 hm2 PyProof.Rows.boot_set ?_)
  refine PyProof.Rows.callWith_type1 (PyProof.Rows.args_cons (thn (ha.run pins s σ H _ I h) fun v s1 ⟨x, H1, I1, r1, q1⟩ => PyProof.Rows.args_nil ?_) na) na rfl
  obtain ⟨l, xs, rfl, hq, h1, q1⟩ := q1
  cases r1
  obtain ⟨its, r, pl, hz⟩ := I1.list hq
  refine call_set_listSN (I1.ok.hd hc) pl.isList (by simpa using Vals.strs r) h1 fun h' tk hS hk => ?_
  refine PyProof.Rows.args_nil ?_
  have hl : its.toArray.size = xs.length := by rw [List.size_toArray, ← r.length, List.length_map]
  rw [hl, List.take_length] at hS
  have hd := ddp_len xs
  obtain ⟨o, es, ep, t, ho, hex, hdt, _, _, _, hf, hn⟩ := hS
  have I2 : Inv X pins σ H1 { s1 with heap := h', toks := tk } := I1.kept fun b o e => hk b o (Heap.lt_size e) e
  exact call_len_set ho hex hdt hf (by rw [hn] <;> omega) ⟨.int (ddp xs).length, H1, I2.tok _, ⟨_, by rw [hn]⟩, q1⟩
def lenSetD : D → Option D | .lst l => (match strsD l with | some ys => if ys.length ≤ 4000 then some (.int ((ddp ys).length : Nat)) else none | none => none) | _ => none
theorem any_map {α β : Type} [BEq α] [BEq β] (f : α → β) (hf : ∀ a b, (f a == f b) = (a == b)) : ∀ (l : List α) (x : α), (l.map f).any (· == f x) = l.any (· == x)
  | [], _ => rfl
  | a :: r, x => by simp only [List.map_cons, List.any_cons, hf, any_map f hf r x]
theorem ddp_map {α β : Type} [BEq α] [BEq β] (f : α → β) (hf : ∀ a b, (f a == f b) = (a == b)) (l : List α) : ddp (l.map f) = (ddp l).map f := by
  have key : ∀ (l σ : List α), (l.map f).foldl step_dedup (σ.map f) = (l.foldl step_dedup σ).map f := by
    intro l
    induction l with
    | nil => intro σ; rfl
    | cons x r ih =>
      intro σ
      simp only [List.map_cons, List.foldl_cons]
      rw [← ih]
      congr 1
      simp only [step_dedup, any_map f hf]
      split <;> simp
  simpa [ddp] using key l []
variable [EC]
theorem rd_lenSet {R : Type} {F : Fc} {tmp : Tmp} {s : State} {m : Res R} {K : Rs R} {ta : TE} {Kf : PySem.W.Frag}
    (h : RD F tmp s ta m (fun tm1 s1 m1 => ∃ a k, valS s1 tm1 = some a ∧ m1 = ob (lenSetD a) k ∧ ∀ c, K (.own (.f c)) s1 (k c))) : RD F tmp s (tLenSetN Kf ta) m K := fun σ H Q hh nf eo q =>
  h σ H _ hh nf eo fun tm1 s1 x H1 ⟨a, k, ea, em, hk⟩ h1 => by
    obtain ⟨c, ec, em'⟩ := ob_cases (by rw [← em]; exact nf)
    have h2 := h1
    obtain ⟨G, ω, h1⟩ := h1
    have r := h1.repC h1.tm.1 ea
    cases a <;> try (cases ec; done)
    rename_i l
    simp only [lenSetD] at ec
    cases e2 : strsD l with
    | none => rw [e2] at ec; cases ec
    | some ys =>
      rw [e2] at ec
      simp only at ec
      split at ec
      · rename_i hy
        cases ec
        obtain ⟨p, vs, e, g, z, rr⟩ := r
        subst e
        have hv := strs_ok e2 rr
        refine ⟨p, ys.map mkS, rfl, .inl (by rw [← hv]; exact g), by simpa using hy, ?_⟩
        rw [ddp_map mkS mkS_beq, List.length_map]
        exact q _ s1 _ H1 (by rw [em, em']; exact hk _) ⟨G, ω, h1.pop.pushF (d := .int _) rfl⟩
      · cases ec
end VL

set_option maxHeartbeats 0
namespace W
open PySem PySem.Spec PyProof.Rows L2 VL
def topS (i : Nat) : Stmt := PySem.Challenge.pw_anydelay_k28_sheets_told.main.body.getD i (.Pass ⟨0, 0, 0, 0⟩)
abbrev q_a : List Nat := [97]
theorem e_q_a : (PySem.Str.ofString "a") = mkS q_a := by decide +kernel
abbrev q_b : List Nat := [98]
theorem e_q_b : (PySem.Str.ofString "b") = mkS q_b := by decide +kernel
abbrev q_c : List Nat := [99]
theorem e_q_c : (PySem.Str.ofString "c") = mkS q_c := by decide +kernel
abbrev q_ab : List Nat := [97, 98]
theorem e_q_ab : (PySem.Str.ofString "ab") = mkS q_ab := by decide +kernel
abbrev q_ba : List Nat := [98, 97]
theorem e_q_ba : (PySem.Str.ofString "ba") = mkS q_ba := by decide +kernel
abbrev q_hold : List Nat := [104, 111, 108, 100]
theorem e_q_hold : (PySem.Str.ofString "hold") = mkS q_hold := by decide +kernel
abbrev q_set : List Nat := [115, 101, 116]
theorem e_q_set : (PySem.Str.ofString "set") = mkS q_set := by decide +kernel
abbrev q_x : List Nat := [120]
theorem e_q_x : (PySem.Str.ofString "x") = mkS q_x := by decide +kernel
abbrev q_zzzzzzzz : List Nat := [122, 122, 122, 122, 122, 122, 122, 122]
theorem e_q_zzzzzzzz : (PySem.Str.ofString "zzzzzzzz") = mkS q_zzzzzzzz := by decide +kernel
abbrev q_aa : List Nat := [97, 97]
theorem e_q_aa : (PySem.Str.ofString "aa") = mkS q_aa := by decide +kernel
abbrev q_wire : List Nat := [119, 105, 114, 101]
theorem e_q_wire : (PySem.Str.ofString "wire") = mkS q_wire := by decide +kernel
abbrev q_not : List Nat := [110, 111, 116]
theorem e_q_not : (PySem.Str.ofString "not") = mkS q_not := by decide +kernel
abbrev q_and : List Nat := [97, 110, 100]
theorem e_q_and : (PySem.Str.ofString "and") = mkS q_and := by decide +kernel
abbrev q_or : List Nat := [111, 114]
theorem e_q_or : (PySem.Str.ofString "or") = mkS q_or := by decide +kernel
abbrev q_q : List Nat := [113]
theorem e_q_q : (PySem.Str.ofString "q") = mkS q_q := by decide +kernel
abbrev q_10 : List Nat := [49, 48]
theorem e_q_10 : (PySem.Str.ofString "10") = mkS q_10 := by decide +kernel
abbrev qx_ : List Nat := []
theorem e_qx_ : (PySem.Str.ofString "") = mkS qx_ := by decide +kernel
abbrev q_01 : List Nat := [48, 49]
theorem e_q_01 : (PySem.Str.ofString "01") = mkS q_01 := by decide +kernel
abbrev q_abcdefghijklmnopqrstuvwxyz : List Nat := [97, 98, 99, 100, 101, 102, 103, 104, 105, 106, 107, 108, 109, 110, 111, 112, 113, 114, 115, 116, 117, 118, 119, 120, 121, 122]
theorem e_q_abcdefghijklmnopqrstuvwxyz : (PySem.Str.ofString "abcdefghijklmnopqrstuvwxyz") = mkS q_abcdefghijklmnopqrstuvwxyz := by decide +kernel
def m__law_store (x_cell : D) : Res (List D) :=
  rb (ob (powD (.int 10) (.int 18)) fun t5 => ob (geD x_cell t5) fun t4 => if t4 = true then .ok x_cell else .ok (.int 0) : Res D) fun z3 => ob (modD x_cell (.int 2147483629)) fun t6 => .ok ([z3, t6, (.int 1)])
abbrev s__law_store : Stmt := topS 14
theorem sc__law_store : FnScope ["cell", "great"] ["cell"] (defScope s__law_store) := ⟨rfl, rfl, rfl, by decide +kernel, rfl, by decide +kernel, by decide +kernel⟩
def m__law_take (x_store : List D) (x_many : D) : Res (D × (List D)) :=
  (ob (ixD (.lst x_store) (.int 0)) fun t2 => ob (gtD t2 (.int 0)) fun t1 => if t1 = true then ob (ixD (.lst x_store) (.int 0)) fun t4 => ob (modD t4 x_many) fun t3 => ob (ixD (.lst x_store) (.int 0)) fun t7 => ob (fdivD t7 x_many) fun t6 => ob (setL x_store (.int 0) t6) fun t5 => .ok (t3, t5) else ob (ixD (.lst x_store) (.int 2)) fun t10 => ob (addD t10 (.int 1)) fun t9 => ob (setL x_store (.int 2) t9) fun t8 => ob (ixD (.lst t8) (.int 1)) fun t14 => ob (ixD (.lst t8) (.int 2)) fun t16 => ob (mulD (.int 7919) t16) fun t15 => ob (addD t14 t15) fun t13 => ob (mulD t13 (.int 48271)) fun t12 => ob (modD t12 (.int 2147483647)) fun t11 => ob (mulD t11 t11) fun t18 => ob (modD t18 (.int 2147483629)) fun t17 => ob (ixD (.lst t8) (.int 2)) fun t23 => ob (mulD (.int 40692) t23) fun t22 => ob (addD t17 t22) fun t21 => ob (mulD t21 (.int 69621)) fun t20 => ob (modD t20 (.int 2147483587)) fun t19 => ob (fdivD t19 (.int 8)) fun t25 => ob (modD t25 x_many) fun t24 => .ok (t24, t8))
abbrev s__law_take : Stmt := topS 15
theorem sc__law_take : FnScope ["store", "many", "one", "told"] ["store", "many"] (defScope s__law_take) := ⟨rfl, rfl, rfl, by decide +kernel, rfl, by decide +kernel, by decide +kernel⟩
def m__law_some_names (x_store : List D) (x_many : D) : Res ((List D) × (List D)) :=
  ob (rngD (.int 0) x_many) fun ds4 => rb (fmS ds4 ([(.str q_a), (.str q_b), (.str q_c), (.str q_ab), (.str q_ba), (.str q_hold), (.str q_set), (.str q_x), (.str q_zzzzzzzz), (.str q_aa), (.str q_wire), (.str q_not), (.str q_and), (.str q_or), (.str q_q)], x_store) fun z2 d1 => ob (lenD (.lst z2.1)) fun t7 => rb (m__law_take z2.2 t7) fun r6 => ob (popAtL z2.1 r6.1) fun t5 => .ok (some t5.1, (t5.2, r6.2))) fun p3 => .ok (p3.1, p3.2.2)
abbrev s__law_some_names : Stmt := topS 16
theorem sc__law_some_names : FnScope ["store", "many", "spare", "k"] ["store", "many"] (defScope s__law_some_names) := ⟨rfl, rfl, rfl, by decide +kernel, rfl, by decide +kernel, by decide +kernel⟩
theorem blk__law_some_names_0 : BlkOk ["store", "many", "spare", "k"] (defScope s__law_some_names) { kind := PySem.ScopeKind.function, names := [ (PySem.Str.ofString ".0", PySem.NameKind.local), (PySem.Str.ofString "k", PySem.NameKind.local), (PySem.Str.ofString "_law_take", PySem.NameKind.globalImplicit), (PySem.Str.ofString "len", PySem.NameKind.globalImplicit), (PySem.Str.ofString "spare", PySem.NameKind.free), (PySem.Str.ofString "store", PySem.NameKind.free)], isGenerator := false, isCoroutine := false, more := [] : PySem.Scope } [("k", 3)] := ⟨rfl, by decide +kernel, by decide +kernel, by decide +kernel, by decide +kernel⟩
def m__law_flip (x_signs : D) (x_at : D) : Res D :=
  ob (asI x_at) fun t4 => ob (slS none (some t4) x_signs) fun t3 => ob (ixD x_signs x_at) fun t7 => ob (intD t7) fun t6 => ob (ixD (.str q_10) t6) fun t5 => ob (addD t3 t5) fun t2 => ob (addD x_at (.int 1)) fun t10 => ob (asI t10) fun t9 => ob (slS (some t9) none x_signs) fun t8 => ob (addD t2 t8) fun t1 => .ok t1
abbrev s__law_flip : Stmt := topS 17
theorem sc__law_flip : FnScope ["signs", "at"] ["signs", "at"] (defScope s__law_flip) := ⟨rfl, rfl, rfl, by decide +kernel, rfl, by decide +kernel, by decide +kernel⟩
def m__law_sheet (x_store : List D) (x_most : D) : Res (D × (List D)) :=
  rb (m__law_take x_store (.int 5)) fun r1 => rb (m__law_take r1.2 (.int 4)) fun r5 => ob (ixD (.lst [(.int 3), (.int 3), (.int 3), (.int 7)]) r5.1) fun t4 => rb (m__law_take r5.2 t4) fun r3 => ob (addD (.int 1) r3.1) fun t2 => ob (addD r1.1 t2) fun t7 => rb (m__law_some_names r3.2 t7) fun r6 => ob (asStr (.str qx_)) fun t9 => ob (asLst (.lst r6.1)) fun ds13 => rb (fmS ds13 r6.2 fun z11 d10 => rb (m__law_take z11 (.int 2)) fun r15 => ob (ixD (.str q_01) r15.1) fun t14 => .ok (some t14, r15.2)) fun p12 => ob (joinD (.str qx_) (.lst p12.1)) fun t8 => rb (m__law_take p12.2 x_most) fun r19 => ob (rngD (.int 0) r19.1) fun ds18 => rb (forN (Z := ((List D) × (List (List D)) × (List D))) ds18 (r19.2, ([[]] : List (List D)), [t8]) fun z17 d16 => rb (m__law_take z17.1 (.int ((z17.2.1).length : Nat))) fun r20 => ob (lenD (.lst r6.1)) fun t24 => ob (rngD (.int 0) t24) fun ds23 => rb (fmR ds23 fun d21 => ob (ixD (.lst r6.1) d21) fun t26 => ob (ixNd (z17.2.1).length r20.1) fun j30 => rb (fmR ((z17.2.1).getD j30 []) fun d27 => ob (un2 d27) fun p32 => .ok (some p32.1)) fun ys28 => ob (notInD t26 (.lst ys28)) fun t25 => if t25 = true then .ok (some d21) else .ok none) fun ys22 => (ob (neD (.lst ys22) (.lst [])) fun t33 => if t33 = true then ob (lenD (.lst ys22)) fun t36 => rb (m__law_take r20.2 t36) fun r35 => ob (ixD (.lst ys22) r35.1) fun t34 => ob (ixNd (z17.2.1).length r20.1) fun j37 => ob (ixD (.lst r6.1) t34) fun t40 => ob (apL ((z17.2.1).getD j37 []) (.tup [t40, (.int ((z17.2.1).length : Nat))])) fun t39 => ob (ixD (.lst z17.2.2) r20.1) fun t43 => rb (m__law_flip t43 t34) fun r42 => ob (apL z17.2.2 r42) fun t41 => (if ((((z17.2.1).set j37 t39)).map VL.T.l).length < 16777216 then .ok (r35.2, (((z17.2.1).set j37 t39) ++ [[]]), t41) else .fail) else .ok (r20.2, z17.2.1, z17.2.2))) fun z17 => ob (mulD (.int 2) x_most) fun t49 => rb (m__law_take z17.1 t49) fun r48 => ob (rngD (.int 0) r48.1) fun ds47 => rb (forN (Z := ((List D) × (List (List D)))) ds47 (r48.2, z17.2.1) fun z46 d45 => rb (m__law_take z46.1 (.int ((z46.2).length : Nat))) fun r50 => ob (lenD (.lst r6.1)) fun t52 => rb (m__law_take r50.2 t52) fun r51 => ob (rngD (.int 0) (.int ((z46.2).length : Nat))) fun ds55 => rb (fmR ds55 fun d53 => ob (ixD (.lst z17.2.2) d53) fun t57 => ob (ixD (.lst z17.2.2) r50.1) fun t59 => rb (m__law_flip t59 r51.1) fun r58 => ob (eqD t57 r58) fun t56 => if t56 = true then .ok (some d53) else .ok none) fun ys54 => (ob (neD (.lst ys54) (.lst [])) fun t61 => rb (if t61 = true then ob (ixD (.lst r6.1) r51.1) fun t63 => ob (ixNd (z46.2).length r50.1) fun j67 => rb (fmR ((z46.2).getD j67 []) fun d64 => ob (un2 d64) fun p69 => .ok (some p69.1)) fun ys65 => ob (notInD t63 (.lst ys65)) fun t62 => .ok (t62, ()) else .ok (false, ()) : Res (Bool × Unit)) fun p60 => if p60.1 = true then ob (ixNd (z46.2).length r50.1) fun j70 => ob (ixD (.lst r6.1) r51.1) fun t73 => ob (lenD (.lst ys54)) fun t76 => rb (m__law_take r51.2 t76) fun r75 => ob (ixD (.lst ys54) r75.1) fun t74 => ob (apL ((z46.2).getD j70 []) (.tup [t73, t74])) fun t72 => .ok (r75.2, ((z46.2).set j70 t72)) else .ok (r51.2, z46.2))) fun z46 => rb (m__law_take z46.1 (.int 4)) fun r82 => ob (ixD (.lst [(.int 0), (.int 0), (.int 1), (.int 2)]) r82.1) fun t81 => ob (ltD (.int ((z46.2).length : Nat)) (.int 38)) fun t84 => ob (intD (.bl t84)) fun t83 => ob (mulD t81 t83) fun t80 => ob (rngD (.int 0) t80) fun ds79 => rb (forN (Z := ((List (List D)) × (List D))) ds79 (z46.2, r82.2) fun z78 d77 => ob (lenD (.lst r6.1)) fun t88 => rb (m__law_take z78.2 t88) fun r87 => ob (ixD (.lst r6.1) r87.1) fun t86 => ob (addD (.int ((z78.1).length : Nat)) (.int 1)) fun t90 => rb (m__law_take r87.2 t90) fun r89 => (if ((z78.1).map VL.T.l).length < 16777216 then .ok ((z78.1 ++ [[(.tup [t86, r89.1])]]), r89.2) else .fail)) fun z78 => ob (asI r1.1) fun t92 => ob (slL none (some t92) (.lst r6.1)) fun t91 => ob (asI r1.1) fun t94 => ob (slL (some t94) none (.lst r6.1)) fun t93 => ob (ixD (.lst z17.2.2) (.int 0)) fun t95 => .ok ((.tup [(.lst t91), (.lst t93), t95, llD z78.1]), z78.2)
abbrev s__law_sheet : Stmt := topS 18
theorem sc__law_sheet : FnScope ["store", "most", "ins", "outs", "names", "rows", "nodes", "k", "here", "left", "at", "fits", "to", "name"] ["store", "most"] (defScope s__law_sheet) := ⟨rfl, rfl, rfl, by decide +kernel, rfl, by decide +kernel, by decide +kernel⟩
theorem blk__law_sheet_0 : BlkOk ["store", "most", "ins", "outs", "names", "rows", "nodes", "k", "here", "left", "at", "fits", "to", "name"] (defScope s__law_sheet) { kind := PySem.ScopeKind.function, names := [ (PySem.Str.ofString ".0", PySem.NameKind.local), (PySem.Str.ofString "name", PySem.NameKind.local), (PySem.Str.ofString "to", PySem.NameKind.local)], isGenerator := false, isCoroutine := false, more := [] : PySem.Scope } [("name", 13), ("to", 12)] := ⟨rfl, by decide +kernel, by decide +kernel, by decide +kernel, by decide +kernel⟩
theorem blk__law_sheet_1 : BlkOk ["store", "most", "ins", "outs", "names", "rows", "nodes", "k", "here", "left", "at", "fits", "to", "name"] (defScope s__law_sheet) { kind := PySem.ScopeKind.function, names := [ (PySem.Str.ofString ".0", PySem.NameKind.local), (PySem.Str.ofString "to", PySem.NameKind.local), (PySem.Str.ofString "_law_flip", PySem.NameKind.globalImplicit), (PySem.Str.ofString "at", PySem.NameKind.free), (PySem.Str.ofString "here", PySem.NameKind.free), (PySem.Str.ofString "rows", PySem.NameKind.free)], isGenerator := false, isCoroutine := false, more := [] : PySem.Scope } [("to", 12)] := ⟨rfl, by decide +kernel, by decide +kernel, by decide +kernel, by decide +kernel⟩
theorem blk__law_sheet_2 : BlkOk ["store", "most", "ins", "outs", "names", "rows", "nodes", "k", "here", "left", "at", "fits", "to", "name"] (defScope s__law_sheet) { kind := PySem.ScopeKind.function, names := [ (PySem.Str.ofString ".0", PySem.NameKind.local), (PySem.Str.ofString "at", PySem.NameKind.local), (PySem.Str.ofString "here", PySem.NameKind.free), (PySem.Str.ofString "names", PySem.NameKind.free), (PySem.Str.ofString "nodes", PySem.NameKind.free)], isGenerator := false, isCoroutine := false, more := [] : PySem.Scope } [("at", 10)] := ⟨rfl, by decide +kernel, by decide +kernel, by decide +kernel, by decide +kernel⟩
theorem blk__law_sheet_3 : BlkOk ["store", "most", "ins", "outs", "names", "rows", "nodes", "k", "here", "left", "at", "fits", "to", "name"] ({ kind := PySem.ScopeKind.function, names := [ (PySem.Str.ofString ".0", PySem.NameKind.local), (PySem.Str.ofString "at", PySem.NameKind.local), (PySem.Str.ofString "here", PySem.NameKind.cell), (PySem.Str.ofString "names", PySem.NameKind.cell), (PySem.Str.ofString "nodes", PySem.NameKind.cell)], isGenerator := false, isCoroutine := false, more := [] : PySem.Scope } : Scope) { kind := PySem.ScopeKind.function, names := [ (PySem.Str.ofString ".0", PySem.NameKind.local), (PySem.Str.ofString "name", PySem.NameKind.local), (PySem.Str.ofString "to", PySem.NameKind.local)], isGenerator := false, isCoroutine := false, more := [] : PySem.Scope } [("name", 13), ("to", 12)] := ⟨rfl, by decide +kernel, by decide +kernel, by decide +kernel, by decide +kernel⟩
theorem blk__law_sheet_4 : BlkOk ["store", "most", "ins", "outs", "names", "rows", "nodes", "k", "here", "left", "at", "fits", "to", "name"] (defScope s__law_sheet) { kind := PySem.ScopeKind.function, names := [ (PySem.Str.ofString ".0", PySem.NameKind.local), (PySem.Str.ofString "name", PySem.NameKind.local), (PySem.Str.ofString "_law_take", PySem.NameKind.globalImplicit), (PySem.Str.ofString "store", PySem.NameKind.free)], isGenerator := false, isCoroutine := false, more := [] : PySem.Scope } [("name", 13)] := ⟨rfl, by decide +kernel, by decide +kernel, by decide +kernel, by decide +kernel⟩
def m__law_led_elsewhere (x_store : List D) (x_nodes : List (List D)) : Res (D × (List D) × (List (List D))) :=
  rb (m__law_take x_store (.int ((x_nodes).length : Nat))) fun r1 => (ob (ixNd (x_nodes).length r1.1) fun j3 => ob (neD (.lst ((x_nodes).getD j3 [])) (.lst [])) fun t5 => rb (if t5 = true then rb (m__law_take r1.2 (.int 2)) fun r7 => ob (eqD r7.1 (.int 0)) fun t6 => .ok (t6, r7.2) else .ok (false, r1.2) : Res (Bool × (List D))) fun p2 => if p2.1 = true then ob (ixNd (x_nodes).length r1.1) fun j9 => ob (lenD (.lst ((x_nodes).getD j9 []))) fun t10 => rb (m__law_take p2.2 t10) fun r8 => ob (ixNd (x_nodes).length r1.1) fun j11 => ob (ixD (.lst ((x_nodes).getD j11 [])) r8.1) fun t13 => ob (un2 t13) fun p14 => rb (m__law_take r8.2 (.int ((x_nodes).length : Nat))) fun r18 => ob (ixNd (x_nodes).length r1.1) fun j15 => ob (setL ((x_nodes).getD j15 []) r8.1 (.tup [p14.1, r18.1])) fun t17 => .ok (.non, r18.2, ((x_nodes).set j15 t17)) else .ok (.non, p2.2, x_nodes))
abbrev s__law_led_elsewhere : Stmt := topS 21
theorem sc__law_led_elsewhere : FnScope ["store", "nodes", "here", "at", "name", "to"] ["store", "nodes"] (defScope s__law_led_elsewhere) := ⟨rfl, rfl, rfl, by decide +kernel, rfl, by decide +kernel, by decide +kernel⟩
def m__law_sheet_copy (x_sheet : D) : Res D :=
  ob (ixD x_sheet (.int 0)) fun t2 => ob (listD t2) fun t1 => ob (ixD x_sheet (.int 1)) fun t4 => ob (listD t4) fun t3 => ob (ixD x_sheet (.int 2)) fun t5 => ob (ixD x_sheet (.int 3)) fun t9 => ob (asLst t9) fun ds8 => rb (fmR ds8 fun d6 => ob (listD d6) fun t10 => .ok (some (.lst t10))) fun ys7 => .ok (.tup [(.lst t1), (.lst t3), t5, (.lst ys7)])
abbrev s__law_sheet_copy : Stmt := topS 19
theorem sc__law_sheet_copy : FnScope ["sheet", "node"] ["sheet"] (defScope s__law_sheet_copy) := ⟨rfl, rfl, rfl, by decide +kernel, rfl, by decide +kernel, by decide +kernel⟩
theorem blk__law_sheet_copy_0 : BlkOk ["sheet", "node"] (defScope s__law_sheet_copy) { kind := PySem.ScopeKind.function, names := [ (PySem.Str.ofString ".0", PySem.NameKind.local), (PySem.Str.ofString "node", PySem.NameKind.local), (PySem.Str.ofString "list", PySem.NameKind.globalImplicit)], isGenerator := false, isCoroutine := false, more := [] : PySem.Scope } [("node", 1)] := ⟨rfl, by decide +kernel, by decide +kernel, by decide +kernel, by decide +kernel⟩
def m__law_cell (x_script : D) (x_k : D) : Res D :=
  (ob (lenD x_script) fun t2 => ob (ltD x_k t2) fun t1 => if t1 = true then ob (ixD x_script x_k) fun t3 => .ok t3 else ob (mulD (.int 7) x_k) fun t7 => ob (mulD t7 x_k) fun t6 => ob (mulD (.int 3) x_k) fun t8 => ob (addD t6 t8) fun t5 => ob (addD t5 (.int 11)) fun t4 => .ok t4)
abbrev s__law_cell : Stmt := topS 13
theorem sc__law_cell : FnScope ["script", "k"] ["script", "k"] (defScope s__law_cell) := ⟨rfl, rfl, rfl, by decide +kernel, rfl, by decide +kernel, by decide +kernel⟩
def m_behind_turn (x_names : D) (x_signs : D) (x_name : D) : Res D :=
  ob (asLst x_names) fun t2 => ob (indexD x_names x_name) fun t1 => ob (asI t1) fun t6 => ob (slS none (some t6) x_signs) fun t5 => ob (ixD x_signs t1) fun t10 => ob (intD t10) fun t9 => ob (subD (.int 1) t9) fun t8 => ob (strI t8) fun t7 => ob (addD t5 t7) fun t4 => ob (addD t1 (.int 1)) fun t13 => ob (asI t13) fun t12 => ob (slS (some t12) none x_signs) fun t11 => ob (addD t4 t11) fun t3 => .ok t3
abbrev s_behind_turn : Stmt := topS 9
theorem sc_behind_turn : FnScope ["names", "signs", "name", "at"] ["names", "signs", "name"] (defScope s_behind_turn) := ⟨rfl, rfl, rfl, by decide +kernel, rfl, by decide +kernel, by decide +kernel⟩
def m_rows_of (x_names : D) (x_first : D) (x_nodes : D) : Res D :=
  (if (keyK (.int 0)).isSome = true then rb (whileF (Z := ((List D) × (List (D × D)))) (R := D) FU ([(.int 0)], [((.int 0), x_first)]) (fun z1 => ob (neD (.lst z1.1) (.lst [])) fun t2 => .ok t2) fun z1 => ob (popL z1.1) fun t3 => ob (ixD x_nodes t3.1) fun t7 => ob (asLst t7) fun ds6 => rb (forL (Z := ((List (D × D)) × (List D))) (R := D) ds6 (z1.2, t3.2) fun z5 d4 => ob (un2 d4) fun p8 => ob (dgetD (.dct false z5.1) t3.1) fun t10 => rb (m_behind_turn x_names t10 p8.1) fun r9 => (ob (dinD p8.2 (.dct false z5.1)) fun t11 => if (!t11) = true then ob (dputD false z5.1 p8.2 r9) fun t12 => ob (apL z5.2 p8.2) fun t13 => .ok (.nx (t12, t13)) else (ob (dgetD (.dct false z5.1) p8.2) fun t15 => ob (neD t15 r9) fun t14 => if t14 = true then .ok (.rt .non) else .ok (.nx (z5.1, z5.2))))) fun o => Fl.on o (fun z5 => .ok (.nx (z5.2, z5.1))) (fun r => .ok (.rt r))) fun o => Fl.on o (fun z1 => .ok (.dct false z1.2)) (fun r => .ok r) else .fail)
abbrev s_rows_of : Stmt := topS 10
theorem sc_rows_of : FnScope ["names", "first", "nodes", "found", "waiting", "here", "name", "to", "signs"] ["names", "first", "nodes"] (defScope s_rows_of) := ⟨rfl, rfl, rfl, by decide +kernel, rfl, by decide +kernel, by decide +kernel⟩
def m_is_name (x_thing : D) : Res D :=
  (ob (isK x_thing .str) fun t3 => ob (asB (.bl t3)) fun t2 => rb (if (!t2) = true then .ok (true, ()) else ob (lenD x_thing) fun t7 => ob (ltD (.int 0) t7) fun t4 => rb (if t4 = true then ob (ltD t7 (.int 9)) fun e => .ok e else .ok false : Res Bool) fun c5 => .ok ((!c5), ()) : Res (Bool × Unit)) fun p1 => if p1.1 = true then .ok (.bl false) else ob (strLD x_thing) fun ds11 => rb (fmR ds11 fun d9 => ob (notInD d9 (.str q_abcdefghijklmnopqrstuvwxyz)) fun t12 => if t12 = true then .ok (some d9) else .ok none) fun ys10 => ob (eqD (.lst ys10) (.lst [])) fun t8 => .ok (.bl t8))
abbrev s_is_name : Stmt := topS 4
theorem sc_is_name : FnScope ["thing", "sign"] ["thing"] (defScope s_is_name) := ⟨rfl, rfl, rfl, by decide +kernel, rfl, by decide +kernel, by decide +kernel⟩
theorem blk_is_name_0 : BlkOk ["thing", "sign"] (defScope s_is_name) { kind := PySem.ScopeKind.function, names := [ (PySem.Str.ofString ".0", PySem.NameKind.local), (PySem.Str.ofString "sign", PySem.NameKind.local), (PySem.Str.ofString "LETTERS", PySem.NameKind.globalImplicit)], isGenerator := false, isCoroutine := false, more := [] : PySem.Scope } [("sign", 1)] := ⟨rfl, by decide +kernel, by decide +kernel, by decide +kernel, by decide +kernel⟩
def m_are_names (x_thing : D) : Res D :=
  ob (isK x_thing .list) fun t3 => ob (asB (.bl t3)) fun t1 => rb (if t1 = true then ob (asLst x_thing) fun ds7 => rb (fmR ds7 fun d5 => rb (m_is_name d5) fun r9 => ob (asB r9) fun t8 => if (!t8) = true then .ok (some d5) else .ok none) fun ys6 => ob (eqD (.lst ys6) (.lst [])) fun t4 => .ok ((.bl t4), ()) else .ok (.bl false, ()) : Res (D × Unit)) fun p2 => .ok p2.1
abbrev s_are_names : Stmt := topS 5
theorem sc_are_names : FnScope ["thing", "one"] ["thing"] (defScope s_are_names) := ⟨rfl, rfl, rfl, by decide +kernel, rfl, by decide +kernel, by decide +kernel⟩
theorem blk_are_names_0 : BlkOk ["thing", "one"] (defScope s_are_names) { kind := PySem.ScopeKind.function, names := [ (PySem.Str.ofString ".0", PySem.NameKind.local), (PySem.Str.ofString "one", PySem.NameKind.local), (PySem.Str.ofString "is_name", PySem.NameKind.globalImplicit)], isGenerator := false, isCoroutine := false, more := [] : PySem.Scope } [("one", 1)] := ⟨rfl, by decide +kernel, by decide +kernel, by decide +kernel, by decide +kernel⟩
def m_are_signs (x_thing : D) (x_many : D) : Res D :=
  (ob (isK x_thing .str) fun t3 => ob (asB (.bl t3)) fun t2 => rb (if (!t2) = true then .ok (true, ()) else ob (lenD x_thing) fun t5 => ob (neD t5 x_many) fun t4 => .ok (t4, ()) : Res (Bool × Unit)) fun p1 => if p1.1 = true then .ok (.bl false) else ob (strLD x_thing) fun ds9 => rb (fmR ds9 fun d7 => ob (notInD d7 (.str q_01)) fun t10 => if t10 = true then .ok (some d7) else .ok none) fun ys8 => ob (eqD (.lst ys8) (.lst [])) fun t6 => .ok (.bl t6))
abbrev s_are_signs : Stmt := topS 6
theorem sc_are_signs : FnScope ["thing", "many", "sign"] ["thing", "many"] (defScope s_are_signs) := ⟨rfl, rfl, rfl, by decide +kernel, rfl, by decide +kernel, by decide +kernel⟩
theorem blk_are_signs_0 : BlkOk ["thing", "many", "sign"] (defScope s_are_signs) { kind := PySem.ScopeKind.function, names := [(PySem.Str.ofString ".0", PySem.NameKind.local), (PySem.Str.ofString "sign", PySem.NameKind.local)], isGenerator := false, isCoroutine := false, more := [] : PySem.Scope } [("sign", 2)] := ⟨rfl, by decide +kernel, by decide +kernel, by decide +kernel, by decide +kernel⟩
def m_is_whole (x_thing : D) : Res D :=
  ob (isK x_thing .int) fun t3 => ob (asB (.bl t3)) fun t1 => rb (if t1 = true then ob (isK x_thing .bool) fun t5 => ob (asB (.bl t5)) fun t4 => .ok ((.bl (!t4)), ()) else .ok (.bl false, ()) : Res (D × Unit)) fun p2 => .ok p2.1
abbrev s_is_whole : Stmt := topS 3
theorem sc_is_whole : FnScope ["thing"] ["thing"] (defScope s_is_whole) := ⟨rfl, rfl, rfl, by decide +kernel, rfl, by decide +kernel, by decide +kernel⟩
def m_is_turn (x_thing : D) (x_names : D) (x_many : D) : Res D :=
  (ob (isK x_thing .tuple) fun t3 => ob (asB (.bl t3)) fun t2 => rb (if (!t2) = true then .ok (true, ()) else ob (lenD x_thing) fun t6 => ob (neD t6 (.int 2)) fun t5 => rb (if t5 = true then .ok (true, ()) else ob (ixD x_thing (.int 0)) fun t9 => ob (isK t9 .str) fun t8 => ob (asB (.bl t8)) fun t7 => .ok ((!t7), ()) : Res (Bool × Unit)) fun p4 => .ok (p4.1, ()) : Res (Bool × Unit)) fun p1 => if p1.1 = true then .ok (.bl false) else ob (ixD x_thing (.int 0)) fun t13 => ob (inD t13 x_names) fun t12 => ob (asB (.bl t12)) fun t10 => rb (if t10 = true then ob (ixD x_thing (.int 1)) fun t17 => rb (m_is_whole t17) fun r16 => ob (asB r16) fun t14 => rb (if t14 = true then ob (ixD x_thing (.int 1)) fun t21 => ob (leD (.int 0) t21) fun t18 => rb (if t18 = true then ob (ltD t21 x_many) fun e => .ok e else .ok false : Res Bool) fun c19 => .ok ((.bl c19), ()) else .ok (.bl false, ()) : Res (D × Unit)) fun p15 => .ok (p15.1, ()) else .ok (.bl false, ()) : Res (D × Unit)) fun p11 => .ok p11.1)
abbrev s_is_turn : Stmt := topS 7
theorem sc_is_turn : FnScope ["thing", "names", "many"] ["thing", "names", "many"] (defScope s_is_turn) := ⟨rfl, rfl, rfl, by decide +kernel, rfl, by decide +kernel, by decide +kernel⟩
def m_is_node (x_thing : D) (x_names : D) (x_many : D) : Res D :=
  (ob (isK x_thing .list) fun t2 => ob (asB (.bl t2)) fun t1 => if (!t1) = true then .ok (.bl false) else ob (asLst x_thing) fun ds5 => rb (forL (Z := (List (D × D))) (R := D) ds5 [] fun z4 d3 => (rb (m_is_turn d3 x_names x_many) fun r8 => ob (asB r8) fun t7 => rb (if (!t7) = true then .ok (true, ()) else ob (ixD d3 (.int 0)) fun t10 => ob (dinD t10 (.dct false z4)) fun t9 => .ok (t9, ()) : Res (Bool × Unit)) fun p6 => if p6.1 = true then .ok (.rt (.bl false)) else ob (ixD d3 (.int 0)) fun t12 => ob (dputD false z4 t12 (.bl true)) fun t11 => .ok (.nx t11))) fun o => Fl.on o (fun z4 => .ok (.bl true)) (fun r => .ok r))
abbrev s_is_node : Stmt := topS 8
theorem sc_is_node : FnScope ["thing", "names", "many", "met", "turn"] ["thing", "names", "many"] (defScope s_is_node) := ⟨rfl, rfl, rfl, by decide +kernel, rfl, by decide +kernel, by decide +kernel⟩
def m_is_sheet (x_thing : D) : Res D :=
  (ob (isK x_thing .tuple) fun t3 => ob (asB (.bl t3)) fun t2 => rb (if (!t2) = true then .ok (true, ()) else ob (lenD x_thing) fun t5 => ob (neD t5 (.int 4)) fun t4 => .ok (t4, ()) : Res (Bool × Unit)) fun p1 => if p1.1 = true then .ok (.bl false) else ob (un4 x_thing) fun p6 => (rb (m_are_names p6.1) fun r9 => ob (asB r9) fun t8 => rb (if (!t8) = true then .ok (true, ()) else rb (m_are_names p6.2.1) fun r12 => ob (asB r12) fun t11 => rb (if (!t11) = true then .ok (true, ()) else ob (lenD p6.1) fun t15 => ob (gtD t15 (.int 4)) fun t14 => rb (if t14 = true then .ok (true, ()) else ob (lenD p6.2.1) fun t19 => ob (ltD (.int 0) t19) fun t16 => rb (if t16 = true then ob (ltD t19 (.int 8)) fun e => .ok e else .ok false : Res Bool) fun c17 => .ok ((!c17), ()) : Res (Bool × Unit)) fun p13 => .ok (p13.1, ()) : Res (Bool × Unit)) fun p10 => .ok (p10.1, ()) : Res (Bool × Unit)) fun p7 => if p7.1 = true then .ok (.bl false) else ob (catD p6.1 p6.2.1) fun t20 => (ob (lenSetD (.lst t20)) fun t23 => ob (lenD (.lst t20)) fun t24 => ob (neD t23 t24) fun t22 => rb (if t22 = true then .ok (true, ()) else ob (lenD (.lst t20)) fun t27 => rb (m_are_signs p6.2.2.1 t27) fun r26 => ob (asB r26) fun t25 => .ok ((!t25), ()) : Res (Bool × Unit)) fun p21 => if p21.1 = true then .ok (.bl false) else (ob (isK p6.2.2.2 .list) fun t30 => ob (asB (.bl t30)) fun t29 => rb (if (!t29) = true then .ok (true, ()) else ob (lenD p6.2.2.2) fun t34 => ob (ltD (.int 0) t34) fun t31 => rb (if t31 = true then ob (leD t34 (.int 40)) fun e => .ok e else .ok false : Res Bool) fun c32 => .ok ((!c32), ()) : Res (Bool × Unit)) fun p28 => if p28.1 = true then .ok (.bl false) else (ob (asLst p6.2.2.2) fun ds38 => rb (fmR ds38 fun d36 => ob (lenD p6.2.2.2) fun t41 => rb (m_is_node d36 (.lst t20) t41) fun r40 => ob (asB r40) fun t39 => if (!t39) = true then .ok (some d36) else .ok none) fun ys37 => ob (neD (.lst ys37) (.lst [])) fun t35 => if t35 = true then .ok (.bl false) else rb (m_rows_of (.lst t20) p6.2.2.1 p6.2.2.2) fun r43 => ob (nnD r43 .non) fun t42 => .ok (.bl t42))))))
abbrev s_is_sheet : Stmt := topS 11
theorem sc_is_sheet : FnScope ["thing", "names", "inputs", "outputs", "first", "nodes", "node"] ["thing"] (defScope s_is_sheet) := ⟨rfl, rfl, rfl, by decide +kernel, rfl, by decide +kernel, by decide +kernel⟩
theorem blk_is_sheet_0 : BlkOk ["thing", "names", "inputs", "outputs", "first", "nodes", "node"] (defScope s_is_sheet) { kind := PySem.ScopeKind.function, names := [ (PySem.Str.ofString ".0", PySem.NameKind.local), (PySem.Str.ofString "node", PySem.NameKind.local), (PySem.Str.ofString "is_node", PySem.NameKind.globalImplicit), (PySem.Str.ofString "len", PySem.NameKind.globalImplicit), (PySem.Str.ofString "names", PySem.NameKind.free), (PySem.Str.ofString "nodes", PySem.NameKind.free)], isGenerator := false, isCoroutine := false, more := [] : PySem.Scope } [("node", 6)] := ⟨rfl, by decide +kernel, by decide +kernel, by decide +kernel, by decide +kernel⟩
def m__law_signs (x_sheet : D) : Res D :=
  ob (ixD x_sheet (.int 0)) fun t2 => ob (ixD x_sheet (.int 1)) fun t3 => ob (catD t2 t3) fun t1 => ob (ixD x_sheet (.int 3)) fun t6 => ob (lenD t6) fun t5 => ob (repL [.non] t5) fun t4 => ob (ixD x_sheet (.int 2)) fun t8 => ob (setL t4 (.int 0) t8) fun t7 => rb (whileF (Z := (D × (List D) × (List D))) (R := D) FU ((.int 0), t7, [(.int 0)]) (fun z9 => ob (lenD (.lst z9.2.2)) fun t11 => ob (ltD z9.1 t11) fun t10 => .ok t10) fun z9 => ob (ixD (.lst z9.2.2) z9.1) fun t12 => ob (addD z9.1 (.int 1)) fun t13 => ob (ixD x_sheet (.int 3)) fun t18 => ob (ixD t18 t12) fun t17 => ob (asLst t17) fun ds16 => rb (forL (Z := ((List D) × (List D))) (R := D) ds16 (z9.2.1, z9.2.2) fun z15 d14 => ob (un2 d14) fun p19 => ob (ixD (.lst z15.1) t12) fun t21 => ob (asLst (.lst t1)) fun t23 => ob (indexD (.lst t1) p19.1) fun t22 => rb (m__law_flip t21 t22) fun r20 => rb (ob (ixD (.lst z15.1) p19.2) fun t30 => ob (isnD t30 .non) fun t29 => if t29 = true then ob (setL z15.1 p19.2 r20) fun t31 => ob (apL z15.2 p19.2) fun t32 => .ok (t31, t32) else .ok (z15.1, z15.2) : Res ((List D) × (List D))) fun z28 => (ob (ixD (.lst z28.1) p19.2) fun t34 => ob (neD t34 r20) fun t33 => if t33 = true then .ok (.rt .non) else .ok (.nx (z28.1, z28.2)))) fun o => Fl.on o (fun z15 => .ok (.nx (t13, z15.1, z15.2))) (fun r => .ok (.rt r))) fun o => Fl.on o (fun z9 => .ok (.lst z9.2.1)) (fun r => .ok r)
abbrev s__law_signs : Stmt := topS 20
theorem sc__law_signs : FnScope ["sheet", "names", "found", "line", "at", "here", "name", "to", "signs"] ["sheet"] (defScope s__law_signs) := ⟨rfl, rfl, rfl, by decide +kernel, rfl, by decide +kernel, by decide +kernel⟩
def m_law (x_script : D) : Res D :=
  ob (lenD x_script) fun t6 => ob (maxD t6 (.int 3)) fun t5 => ob (minD t5 (.int 12)) fun t4 => ob (rngD (.int 0) t4) fun ds3 => rb (forL (Z := Unit) (R := D) ds3 () fun z2 d1 => rb (m__law_cell x_script d1) fun r8 => rb (m__law_store r8) fun r7 => rb (m__law_take r7 (.int 8)) fun r11 => ob (ixD (.lst [(.int 12), (.int 12), (.int 12), (.int 12), (.int 12), (.int 12), (.int 12), (.int 40)]) r11.1) fun t10 => rb (m__law_sheet r11.2 t10) fun r9 => onT r9.1 (fun ds12 => (rb (m_is_sheet (VL.T.er (.tt (shP [0, 0, 0, 2] ds12)))) fun r15 => if chk (.f r15) [none] = true then ob (notbD r15 (.bl true)) fun t13 => if t13 = true then .ok (.rt (.bl false)) else ob (partLL ds12 3) fun ls18 => rb (m__law_led_elsewhere r9.2 ls18) fun r17 => rb (m__law_sheet_copy (VL.T.er (.tt (shP [0, 0, 0, 2] (ds12.set 3 (llD r17.2.2)))))) fun r19 => rb (m__law_signs (VL.T.er (.tt (shP [0, 0, 0, 2] (ds12.set 3 (llD r17.2.2)))))) fun r21 => ob (nnD r21 .non) fun t20 => ob (rngD (.int 0) (.int 2)) fun ds24 => rb (forL (Z := Unit) (R := D) ds24 () fun z23 d22 => rb (m_is_sheet r19) fun r25 => (ob (isK r25 .bool) fun t28 => ob (asB (.bl t28)) fun t27 => rb (if (!t27) = true then .ok (true, ()) else ob (neD r25 (.bl t20)) fun t30 => rb (if t30 = true then .ok (true, ()) else ob (neD r19 (VL.T.er (.tt (shP [0, 0, 0, 2] (ds12.set 3 (llD r17.2.2)))))) fun t31 => .ok (t31, ()) : Res (Bool × Unit)) fun p29 => .ok (p29.1, ()) : Res (Bool × Unit)) fun p26 => if p26.1 = true then .ok (.rt (.bl false)) else .ok (.nx ()))) fun o => Fl.on o (fun z23 => .ok (.nx ())) (fun r => .ok (.rt r)) else .fail)) ((rb (m_is_sheet r9.1) fun r33 => ob (notbD r33 (.bl true)) fun t32 => if t32 = true then .ok (.rt (.bl false)) else .fail))) fun o => Fl.on o (fun z2 => .ok (.bl true)) (fun r => .ok r)
abbrev s_law : Stmt := topS 22
theorem sc_law : FnScope ["script", "at", "store", "sheet", "handed", "due", "turn", "found"] ["script"] (defScope s_law) := ⟨rfl, rfl, rfl, by decide +kernel, rfl, by decide +kernel, by decide +kernel⟩
structure Tx [EC] (K : PySem.W.Frag) (mg : Str → Option Value) where
  a__law_store : Addr
  d__law_store : FuncData
  F__law_store : Fun K "_law_store" "_law_store" s__law_store a__law_store d__law_store
  b__law_store : Binds K d__law_store ["cell"] []
  g__law_store : mg "_law_store" = some (.ref a__law_store)
  a__law_take : Addr
  d__law_take : FuncData
  F__law_take : Fun K "_law_take" "_law_take" s__law_take a__law_take d__law_take
  b__law_take : Binds K d__law_take ["store", "many"] []
  g__law_take : mg "_law_take" = some (.ref a__law_take)
  a__law_some_names : Addr
  d__law_some_names : FuncData
  F__law_some_names : Fun K "_law_some_names" "_law_some_names" s__law_some_names a__law_some_names d__law_some_names
  b__law_some_names : Binds K d__law_some_names ["store", "many"] []
  g__law_some_names : mg "_law_some_names" = some (.ref a__law_some_names)
  a__law_flip : Addr
  d__law_flip : FuncData
  F__law_flip : Fun K "_law_flip" "_law_flip" s__law_flip a__law_flip d__law_flip
  b__law_flip : Binds K d__law_flip ["signs", "at"] []
  g__law_flip : mg "_law_flip" = some (.ref a__law_flip)
  a__law_sheet : Addr
  d__law_sheet : FuncData
  F__law_sheet : Fun K "_law_sheet" "_law_sheet" s__law_sheet a__law_sheet d__law_sheet
  b__law_sheet : Binds K d__law_sheet ["store", "most"] []
  g__law_sheet : mg "_law_sheet" = some (.ref a__law_sheet)
  a__law_led_elsewhere : Addr
  d__law_led_elsewhere : FuncData
  F__law_led_elsewhere : Fun K "_law_led_elsewhere" "_law_led_elsewhere" s__law_led_elsewhere a__law_led_elsewhere d__law_led_elsewhere
  b__law_led_elsewhere : Binds K d__law_led_elsewhere ["store", "nodes"] []
  g__law_led_elsewhere : mg "_law_led_elsewhere" = some (.ref a__law_led_elsewhere)
  a__law_sheet_copy : Addr
  d__law_sheet_copy : FuncData
  F__law_sheet_copy : Fun K "_law_sheet_copy" "_law_sheet_copy" s__law_sheet_copy a__law_sheet_copy d__law_sheet_copy
  b__law_sheet_copy : Binds K d__law_sheet_copy ["sheet"] []
  g__law_sheet_copy : mg "_law_sheet_copy" = some (.ref a__law_sheet_copy)
  a__law_cell : Addr
  d__law_cell : FuncData
  F__law_cell : Fun K "_law_cell" "_law_cell" s__law_cell a__law_cell d__law_cell
  b__law_cell : Binds K d__law_cell ["script", "k"] []
  g__law_cell : mg "_law_cell" = some (.ref a__law_cell)
  a_behind_turn : Addr
  d_behind_turn : FuncData
  F_behind_turn : Fun K "behind_turn" "behind_turn" s_behind_turn a_behind_turn d_behind_turn
  b_behind_turn : Binds K d_behind_turn ["names", "signs", "name"] []
  g_behind_turn : mg "behind_turn" = some (.ref a_behind_turn)
  a_rows_of : Addr
  d_rows_of : FuncData
  F_rows_of : Fun K "rows_of" "rows_of" s_rows_of a_rows_of d_rows_of
  b_rows_of : Binds K d_rows_of ["names", "first", "nodes"] []
  g_rows_of : mg "rows_of" = some (.ref a_rows_of)
  a_is_name : Addr
  d_is_name : FuncData
  F_is_name : Fun K "is_name" "is_name" s_is_name a_is_name d_is_name
  b_is_name : Binds K d_is_name ["thing"] []
  g_is_name : mg "is_name" = some (.ref a_is_name)
  a_are_names : Addr
  d_are_names : FuncData
  F_are_names : Fun K "are_names" "are_names" s_are_names a_are_names d_are_names
  b_are_names : Binds K d_are_names ["thing"] []
  g_are_names : mg "are_names" = some (.ref a_are_names)
  a_are_signs : Addr
  d_are_signs : FuncData
  F_are_signs : Fun K "are_signs" "are_signs" s_are_signs a_are_signs d_are_signs
  b_are_signs : Binds K d_are_signs ["thing", "many"] []
  g_are_signs : mg "are_signs" = some (.ref a_are_signs)
  a_is_whole : Addr
  d_is_whole : FuncData
  F_is_whole : Fun K "is_whole" "is_whole" s_is_whole a_is_whole d_is_whole
  b_is_whole : Binds K d_is_whole ["thing"] []
  g_is_whole : mg "is_whole" = some (.ref a_is_whole)
  a_is_turn : Addr
  d_is_turn : FuncData
  F_is_turn : Fun K "is_turn" "is_turn" s_is_turn a_is_turn d_is_turn
  b_is_turn : Binds K d_is_turn ["thing", "names", "many"] []
  g_is_turn : mg "is_turn" = some (.ref a_is_turn)
  a_is_node : Addr
  d_is_node : FuncData
  F_is_node : Fun K "is_node" "is_node" s_is_node a_is_node d_is_node
  b_is_node : Binds K d_is_node ["thing", "names", "many"] []
  g_is_node : mg "is_node" = some (.ref a_is_node)
  a_is_sheet : Addr
  d_is_sheet : FuncData
  F_is_sheet : Fun K "is_sheet" "is_sheet" s_is_sheet a_is_sheet d_is_sheet
  b_is_sheet : Binds K d_is_sheet ["thing"] []
  g_is_sheet : mg "is_sheet" = some (.ref a_is_sheet)
  a__law_signs : Addr
  d__law_signs : FuncData
  F__law_signs : Fun K "_law_signs" "_law_signs" s__law_signs a__law_signs d__law_signs
  b__law_signs : Binds K d__law_signs ["sheet"] []
  g__law_signs : mg "_law_signs" = some (.ref a__law_signs)
  a_law : Addr
  d_law : FuncData
  F_law : Fun K "law" "law" s_law a_law d_law
  n_bool : mg "bool" = none
  n_int : mg "int" = none
  n_isinstance : mg "isinstance" = none
  n_len : mg "len" = none
  n_list : mg "list" = none
  n_max : mg "max" = none
  n_min : mg "min" = none
  n_range : mg "range" = none
  n_set : mg "set" = none
  n_str : mg "str" = none
  n_tuple : mg "tuple" = none
  ct_LETTERS : Tok
  cg_LETTERS : mg "LETTERS" = some (.str (PySem.Str.ofString "abcdefghijklmnopqrstuvwxyz") ct_LETTERS)
  ct_MOST_NODES : Tok
  cg_MOST_NODES : mg "MOST_NODES" = some (.int 40 ct_MOST_NODES)
section
variable [EC] {P : Program} {w : World} {K : PySem.W.Frag} {mg : Str → Option Value} {base : Heap}
theorem ok__law_store (T : Tx K mg) : FnOk P w K mg base CX0 1 T.a__law_store T.d__law_store ["cell"] (spOf (A := D) (R := List D) EC.ec (fun a => [.f a]) (fun a => m__law_store a) (fun r => .l r) (fun r => [none])) := by
  refine T.F__law_store.ok sc__law_store (fun vs H Q E h => ?_) (fun cdv A outer s H vs Q E hr h => ?_)
  · obtain ⟨a, G, w, _, _, hl, _⟩ := h; exact hl
  · refine ⟨_, (pss_cons (ps_set (i := 1) sc__law_store.nd rfl (by first | exact .inl rfl | exact .inr rfl) pe_int) (pss_cons (ps_if (pt_cmpR op_ge (pv 0) (pe_op op_pow pe_int pe_int) (nomark _)) (pss_one (ps_set (i := 1) sc__law_store.nd rfl (by first | exact .inl rfl | exact .inr rfl) (pv 0))) pss_nil) (pss_one (ps_ret (pe_lst (pa_cons (pv 1) (pa_cons (pe_op op_mod (pv 0) pe_int) (pa_cons pe_int pa_nil)))))))), ?_⟩
    refine fn_body (K := K) [] (fun _ => by show (1 : Nat) ≤ 2; decide) (fun _ => by show ∀ k ∈ ([] : List Nat), k < 1; decide) h (fun F x_cell hec hE hK hpv => ?_)
    skip
    show RS F [] [some (.f x_cell), none] (m__law_store x_cell) _ _ _
    unfold m__law_store
    refine rs_seq ?_
    refine rs_set ?_ rfl (hpv _ (by decide))
    refine rd_int ?_
    refine ⟨_, rfl, (by show (1 : Nat) < 2; decide), ?_⟩
    refine rs_at [some (.f x_cell), some (.f (.int 0))] rfl ?_
    refine rs_seq ?_
    refine rs_join (Z := D) (fun z3 => [some (.f x_cell), some (.f z3)]) _ _ rfl ?_ (fun z3 => ?_)
    · refine rs_if ?_
      refine rt_op2B o_ge ?_
      refine rd_var rfl ?_
      intro _
      refine rd_op2 o_pow ?_
      refine rd_int ?_
      intro _
      refine rd_int ?_
      refine ⟨_, _, _, rfl, rfl, rfl, fun t5 => ?_⟩
      refine ⟨_, _, _, rfl, rfl, rfl, fun t4 => ?_⟩
      refine ⟨_, _, rfl, fun _ => ?_, fun _ => ?_⟩
      · refine rs_set ?_ rfl (hpv _ (by decide))
        refine rd_var rfl ?_
        refine ⟨_, rfl, (by show (1 : Nat) < 2; decide), ?_⟩
        exact ⟨_, rfl, ⟨.inr rfl, ⟨.inr rfl, trivial⟩⟩⟩
      · refine rs_next ?_
        exact ⟨_, rfl, ⟨.inr rfl, ⟨.inr rfl, trivial⟩⟩⟩
    · refine rs_at [some (.f x_cell), some (.f z3)] rfl ?_
      refine rs_ret ?_
      refine rd_lst ?_
      refine ra_cons ?_
      refine rd_var rfl ?_
      intro _
      refine ra_cons ?_
      refine rd_op2 o_mod ?_
      refine rd_var rfl ?_
      intro _
      refine rd_int ?_
      refine ⟨_, _, _, rfl, rfl, rfl, fun t6 => ?_⟩
      intro _
      refine ra_cons ?_
      refine rd_int ?_
      intro _
      refine ra_nil ?_
      refine ⟨[z3, t6, (.int 1)], rfl, (by show (3 : Nat) ≤ 1000; decide), ?_⟩
      refine ⟨_, rfl, ?_⟩
      exact ⟨_, rfl, rfl, trivial⟩
theorem ok__law_take (T : Tx K mg) : FnOk P w K mg base CX0 1 T.a__law_take T.d__law_take ["store", "many"] (spOf (A := (List D) × D) (R := D × (List D)) EC.ec (fun a => [.l a.1, .f a.2]) (fun a => m__law_take a.1 a.2) (fun r => .f r.1) (fun r => [some (.l r.2), none])) := by
  refine T.F__law_take.ok sc__law_take (fun vs H Q E h => ?_) (fun cdv A outer s H vs Q E hr h => ?_)
  · obtain ⟨a, G, w, _, _, hl, _⟩ := h; exact hl
  · refine ⟨_, (pss_cons (ps_if (pt_cmpR op_gt (pe_ix (ix_anyK (Kf := K) (by rfl)) (pv 0) pe_int (fun _ _ => rfl)) pe_int (nomark _)) (pss_cons (ps_set (i := 3) sc__law_take.nd rfl (by first | exact .inl rfl | exact .inr rfl) (pe_op op_mod (pe_ix (ix_anyK (Kf := K) (by rfl)) (pv 0) pe_int (fun _ _ => rfl)) (pv 1))) (pss_cons (ps_asg (pe_op op_fdiv (pe_ix (ix_anyK (Kf := K) (by rfl)) (pv 0) pe_int (fun _ _ => rfl)) (pv 1)) (pg_sub (pv 0) pe_int set_list)) (pss_one (ps_ret (pv 3))))) pss_nil) (pss_cons (ps_asg (pe_op op_addA (pe_ix (ix_anyK (Kf := K) (by rfl)) (pv 0) pe_int (fun _ _ => rfl)) pe_int) (pg_sub (pv 0) pe_int set_list)) (pss_cons (ps_set (i := 2) sc__law_take.nd rfl (by first | exact .inl rfl | exact .inr rfl) (pe_op op_mod (pe_op op_mul (pe_op op_addA (pe_ix (ix_anyK (Kf := K) (by rfl)) (pv 0) pe_int (fun _ _ => rfl)) (pe_op op_mul pe_int (pe_ix (ix_anyK (Kf := K) (by rfl)) (pv 0) pe_int (fun _ _ => rfl)))) pe_int) pe_int)) (pss_cons (ps_set (i := 2) sc__law_take.nd rfl (by first | exact .inl rfl | exact .inr rfl) (pe_op op_mod (pe_op op_mul (pv 2) (pv 2)) pe_int)) (pss_cons (ps_set (i := 2) sc__law_take.nd rfl (by first | exact .inl rfl | exact .inr rfl) (pe_op op_mod (pe_op op_mul (pe_op op_addA (pv 2) (pe_op op_mul pe_int (pe_ix (ix_anyK (Kf := K) (by rfl)) (pv 0) pe_int (fun _ _ => rfl)))) pe_int) pe_int)) (pss_one (ps_ret (pe_op op_mod (pe_op op_fdiv (pv 2) pe_int) (pv 1))))))))), ?_⟩
    refine fn_body (K := K) [0] (fun _ => by show (2 : Nat) ≤ 4; decide) (fun _ => by show ∀ k ∈ ([0] : List Nat), k < 2; decide) h (fun F a hec hE hK hpv => ?_)
    obtain ⟨x_store, x_many⟩ := a
    show RS F [] [some (.l x_store), some (.f x_many), none, none] (m__law_take x_store x_many) _ _ _
    unfold m__law_take
    refine rs_seq ?_
    refine rs_if ?_
    refine rt_op2B o_gt ?_
    refine rd_op2 o_ix ?_
    refine rd_ali rfl ?_
    intro _
    refine rd_int ?_
    refine ⟨_, _, _, rfl, rfl, rfl, fun t2 => ?_⟩
    intro _
    refine rd_int ?_
    refine ⟨_, _, _, rfl, rfl, rfl, fun t1 => ?_⟩
    refine ⟨_, _, rfl, fun _ => ?_, fun _ => ?_⟩
    · refine rs_seq ?_
      refine rs_set ?_ rfl (hpv _ (by decide))
      refine rd_op2 o_mod ?_
      refine rd_op2 o_ix ?_
      refine rd_ali rfl ?_
      intro _
      refine rd_int ?_
      refine ⟨_, _, _, rfl, rfl, rfl, fun t4 => ?_⟩
      intro _
      refine rd_var rfl ?_
      refine ⟨_, _, _, rfl, rfl, rfl, fun t3 => ?_⟩
      refine ⟨_, rfl, (by show (3 : Nat) < 4; decide), ?_⟩
      refine rs_at [some (.l x_store), some (.f x_many), none, some (.f t3)] rfl ?_
      refine rs_seq ?_
      refine rs_setL ?_
      refine rd_op2 o_fdiv ?_
      refine rd_op2 o_ix ?_
      refine rd_ali rfl ?_
      intro _
      refine rd_int ?_
      refine ⟨_, _, _, rfl, rfl, rfl, fun t7 => ?_⟩
      intro _
      refine rd_var rfl ?_
      refine ⟨_, _, _, rfl, rfl, rfl, fun t6 => ?_⟩
      refine ⟨_, rfl, fun _ => ?_⟩
      refine rd_ali rfl ?_
      refine ⟨0, rfl, fun _ => ?_⟩
      refine rd_int ?_
      refine ⟨_, _, _, rfl, rfl, rfl, fun t5 => ?_⟩
      refine rs_at [some (.l t5), some (.f x_many), none, some (.f t3)] rfl ?_
      refine rs_ret ?_
      refine rd_var rfl ?_
      refine ⟨_, rfl, ?_⟩
      exact ⟨_, rfl, rfl, ⟨rfl, by decide, trivial⟩⟩
    · refine rs_next ?_
      refine rs_at [some (.l x_store), some (.f x_many), none, none] rfl ?_
      refine rs_seq ?_
      refine rs_setL ?_
      refine rd_op2 o_add ?_
      refine rd_op2 o_ix ?_
      refine rd_ali rfl ?_
      intro _
      refine rd_int ?_
      refine ⟨_, _, _, rfl, rfl, rfl, fun t10 => ?_⟩
      intro _
      refine rd_int ?_
      refine ⟨_, _, _, rfl, rfl, rfl, fun t9 => ?_⟩
      refine ⟨_, rfl, fun _ => ?_⟩
      refine rd_ali rfl ?_
      refine ⟨0, rfl, fun _ => ?_⟩
      refine rd_int ?_
      refine ⟨_, _, _, rfl, rfl, rfl, fun t8 => ?_⟩
      refine rs_at [some (.l t8), some (.f x_many), none, none] rfl ?_
      refine rs_seq ?_
      refine rs_set ?_ rfl (hpv _ (by decide))
      refine rd_op2 o_mod ?_
      refine rd_op2 o_mul ?_
      refine rd_op2 o_add ?_
      refine rd_op2 o_ix ?_
      refine rd_ali rfl ?_
      intro _
      refine rd_int ?_
      refine ⟨_, _, _, rfl, rfl, rfl, fun t14 => ?_⟩
      intro _
      refine rd_op2 o_mul ?_
      refine rd_int ?_
      intro _
      refine rd_op2 o_ix ?_
      refine rd_ali rfl ?_
      intro _
      refine rd_int ?_
      refine ⟨_, _, _, rfl, rfl, rfl, fun t16 => ?_⟩
      refine ⟨_, _, _, rfl, rfl, rfl, fun t15 => ?_⟩
      refine ⟨_, _, _, rfl, rfl, rfl, fun t13 => ?_⟩
      intro _
      refine rd_int ?_
      refine ⟨_, _, _, rfl, rfl, rfl, fun t12 => ?_⟩
      intro _
      refine rd_int ?_
      refine ⟨_, _, _, rfl, rfl, rfl, fun t11 => ?_⟩
      refine ⟨_, rfl, (by show (2 : Nat) < 4; decide), ?_⟩
      refine rs_at [some (.l t8), some (.f x_many), some (.f t11), none] rfl ?_
      refine rs_seq ?_
      refine rs_set ?_ rfl (hpv _ (by decide))
      refine rd_op2 o_mod ?_
      refine rd_op2 o_mul ?_
      refine rd_var rfl ?_
      intro _
      refine rd_var rfl ?_
      refine ⟨_, _, _, rfl, rfl, rfl, fun t18 => ?_⟩
      intro _
      refine rd_int ?_
      refine ⟨_, _, _, rfl, rfl, rfl, fun t17 => ?_⟩
      refine ⟨_, rfl, (by show (2 : Nat) < 4; decide), ?_⟩
      refine rs_at [some (.l t8), some (.f x_many), some (.f t17), none] rfl ?_
      refine rs_seq ?_
      refine rs_set ?_ rfl (hpv _ (by decide))
      refine rd_op2 o_mod ?_
      refine rd_op2 o_mul ?_
      refine rd_op2 o_add ?_
      refine rd_var rfl ?_
      intro _
      refine rd_op2 o_mul ?_
      refine rd_int ?_
      intro _
      refine rd_op2 o_ix ?_
      refine rd_ali rfl ?_
      intro _
      refine rd_int ?_
      refine ⟨_, _, _, rfl, rfl, rfl, fun t23 => ?_⟩
      refine ⟨_, _, _, rfl, rfl, rfl, fun t22 => ?_⟩
      refine ⟨_, _, _, rfl, rfl, rfl, fun t21 => ?_⟩
      intro _
      refine rd_int ?_
      refine ⟨_, _, _, rfl, rfl, rfl, fun t20 => ?_⟩
      intro _
      refine rd_int ?_
      refine ⟨_, _, _, rfl, rfl, rfl, fun t19 => ?_⟩
      refine ⟨_, rfl, (by show (2 : Nat) < 4; decide), ?_⟩
      refine rs_at [some (.l t8), some (.f x_many), some (.f t19), none] rfl ?_
      refine rs_ret ?_
      refine rd_op2 o_mod ?_
      refine rd_op2 o_fdiv ?_
      refine rd_var rfl ?_
      intro _
      refine rd_int ?_
      refine ⟨_, _, _, rfl, rfl, rfl, fun t25 => ?_⟩
      intro _
      refine rd_var rfl ?_
      refine ⟨_, _, _, rfl, rfl, rfl, fun t24 => ?_⟩
      refine ⟨_, rfl, ?_⟩
      exact ⟨_, rfl, rfl, ⟨rfl, by decide, trivial⟩⟩
theorem ok__law_some_names (T : Tx K mg) : FnOk P w K mg base CX0 2 T.a__law_some_names T.d__law_some_names ["store", "many"] (spOf (A := (List D) × D) (R := (List D) × (List D)) EC.ec (fun a => [.l a.1, .f a.2]) (fun a => m__law_some_names a.1 a.2) (fun r => .l r.1) (fun r => [some (.l r.2), none])) := by
  refine T.F__law_some_names.ok sc__law_some_names (fun vs H Q E h => ?_) (fun cdv A outer s H vs Q E hr h => ?_)
  · obtain ⟨a, G, w, _, _, hl, _⟩ := h; exact hl
  · refine ⟨_, (pss_cons (ps_set (i := 2) sc__law_some_names.nd rfl (by first | exact .inl rfl | exact .inr rfl) (pe_lst (pa_cons pe_str (pa_cons pe_str (pa_cons pe_str (pa_cons pe_str (pa_cons pe_str (pa_cons pe_str (pa_cons pe_str (pa_cons pe_str (pa_cons pe_str (pa_cons pe_str (pa_cons pe_str (pa_cons pe_str (pa_cons pe_str (pa_cons pe_str (pa_cons pe_str pa_nil))))))))))))))))) (pss_one (ps_ret (pe_lc (own := [("k", 3)]) rfl (by exact sc__law_some_names.nd) (pi_range1 (by rfl) T.n_range (pa_cons (pv 1) pa_nil)) blk__law_some_names_0 (fun _ _ _ _ _ => (pg_name (i := 3) sc__law_some_names.nd rfl (by first | exact .inl rfl | exact .inr rfl))) (fun _ _ _ _ _ => pts_nil) (fun _ _ _ _ _ => (pe_bmK (Kf := K) (by rfl) PySem.F.plainAttrs_list PySem.F.slot_list_pop PySem.F.type_list_pop mt_popAt (pv 2) (pa_cons (pe_call (ok__law_take T) (hr.mono (by decide)) (by rfl) T.g__law_take T.F__law_take.kp T.b__law_take .nil (show Passes CX0 _ E from pass0) (pa_cons (pv 0) (pa_cons (pe_callB (call_lenK (Kf := K) (by rfl)) (by rfl) T.n_len PySem.boot_len (pa_cons (pv 2) pa_nil)) pa_nil))) pa_nil))))))), ?_⟩
    refine fn_body (K := K) [0] (fun _ => by show (2 : Nat) ≤ 4; decide) (fun _ => by show ∀ k ∈ ([0] : List Nat), k < 2; decide) h (fun F a hec hE hK hpv => ?_)
    obtain ⟨x_store, x_many⟩ := a
    show RS F [] [some (.l x_store), some (.f x_many), none, none] (m__law_some_names x_store x_many) _ _ _
    unfold m__law_some_names
    refine rs_seq ?_
    refine rs_set ?_ rfl (hpv _ (by decide))
    refine rd_lst ?_
    refine ra_cons ?_
    refine rd_str e_q_a ?_
    intro _
    refine ra_cons ?_
    refine rd_str e_q_b ?_
    intro _
    refine ra_cons ?_
    refine rd_str e_q_c ?_
    intro _
    refine ra_cons ?_
    refine rd_str e_q_ab ?_
    intro _
    refine ra_cons ?_
    refine rd_str e_q_ba ?_
    intro _
    refine ra_cons ?_
    refine rd_str e_q_hold ?_
    intro _
    refine ra_cons ?_
    refine rd_str e_q_set ?_
    intro _
    refine ra_cons ?_
    refine rd_str e_q_x ?_
    intro _
    refine ra_cons ?_
    refine rd_str e_q_zzzzzzzz ?_
    intro _
    refine ra_cons ?_
    refine rd_str e_q_aa ?_
    intro _
    refine ra_cons ?_
    refine rd_str e_q_wire ?_
    intro _
    refine ra_cons ?_
    refine rd_str e_q_not ?_
    intro _
    refine ra_cons ?_
    refine rd_str e_q_and ?_
    intro _
    refine ra_cons ?_
    refine rd_str e_q_or ?_
    intro _
    refine ra_cons ?_
    refine rd_str e_q_q ?_
    intro _
    refine ra_nil ?_
    refine ⟨[(.str q_a), (.str q_b), (.str q_c), (.str q_ab), (.str q_ba), (.str q_hold), (.str q_set), (.str q_x), (.str q_zzzzzzzz), (.str q_aa), (.str q_wire), (.str q_not), (.str q_and), (.str q_or), (.str q_q)], rfl, (by show (15 : Nat) ≤ 1000; decide), ?_⟩
    refine ⟨_, rfl, (by show (2 : Nat) < 4; decide), ?_⟩
    refine rs_at [some (.l x_store), some (.f x_many), some (.l [(.str q_a), (.str q_b), (.str q_c), (.str q_ab), (.str q_ba), (.str q_hold), (.str q_set), (.str q_x), (.str q_zzzzzzzz), (.str q_aa), (.str q_wire), (.str q_not), (.str q_and), (.str q_or), (.str q_q)]), none] rfl ?_
    refine rs_ret ?_
    refine rd_lc (Z := ((List D) × (List D))) [3] (fun i hi => hi) (all1 (hpv _ (by decide))) ?_
    refine ri_range1 ?_
    refine rd_var rfl ?_
    refine ⟨_, _, rfl, rfl, fun ds4 => ?_⟩
    refine ⟨fun z2 => [some (.l z2.2), some (.f x_many), some (.l z2.1), none], ([(.str q_a), (.str q_b), (.str q_c), (.str q_ab), (.str q_ba), (.str q_hold), (.str q_set), (.str q_x), (.str q_zzzzzzzz), (.str q_aa), (.str q_wire), (.str q_not), (.str q_and), (.str q_or), (.str q_q)], x_store), _, _, rfl, ⟨.inr rfl, ⟨.inr rfl, ⟨.inr rfl, ⟨.inl rfl, trivial⟩⟩⟩⟩, fun _ => (by first | exact trivial | rfl | exact ⟨rfl, rfl⟩), fun _ => (all1 rfl), rfl, fun z2 d1 _ _ => ?_, fun p3 => ?_⟩
    · refine rg_name (by show (3 : Nat) < 4; decide) rfl (hpv _ (by decide)) ?_
      refine rt_true rfl ?_
      refine ⟨_, .ok (none, z2), (if_pos rfl).symm, fun _ => ?_, fun h => by cases h⟩
      refine rd_popAt ?_
      refine rd_ali rfl ?_
      refine ⟨2, _, rfl, rfl, fun _ => ?_⟩
      refine rd_call hec hE ?_
      refine ra_cons ?_
      refine rd_ali rfl ?_
      intro _
      refine ra_cons ?_
      refine rd_cb1 o_len ?_
      refine rd_ali rfl ?_
      refine ⟨_, _, rfl, rfl, fun t7 => ?_⟩
      intro _
      refine ra_nil ?_
      refine ⟨(z2.2, t7), _, rfl, rfl, rfl, fun r6 => ?_⟩
      refine ⟨_, _, _, rfl, rfl, rfl, fun t5 => ?_⟩
      exact ⟨_, _, rfl, rfl, ⟨.inr rfl, ⟨.inr rfl, ⟨.inr rfl, ⟨.inl rfl, trivial⟩⟩⟩⟩⟩
    · refine ⟨_, rfl, ?_⟩
      exact ⟨_, rfl, rfl, ⟨rfl, by decide, trivial⟩⟩
theorem ok__law_flip (T : Tx K mg) : FnOk P w K mg base CX0 1 T.a__law_flip T.d__law_flip ["signs", "at"] (spOf (A := D × D) (R := D) EC.ec (fun a => [.f a.1, .f a.2]) (fun a => m__law_flip a.1 a.2) (fun r => .f r) (fun r => [none, none])) := by
  refine T.F__law_flip.ok sc__law_flip (fun vs H Q E h => ?_) (fun cdv A outer s H vs Q E hr h => ?_)
  · obtain ⟨a, G, w, _, _, hl, _⟩ := h; exact hl
  · refine ⟨_, (pss_one (ps_ret (pe_op op_addA (pe_op op_addA (pe_slice sl_str (pv 0) po_none (po_some (pv 1))) (pe_ix (ix_anyK (Kf := K) (by rfl)) pe_str (pe_callTy call_intA (by rfl) T.n_int PyProof.Rows.boot_int (pa_cons (pe_ix (ix_anyK (Kf := K) (by rfl)) (pv 0) (pv 1) (fun _ _ => rfl)) pa_nil)) (fun _ _ => rfl))) (pe_slice sl_str (pv 0) (po_some (pe_op op_addA (pv 1) pe_int)) po_none)))), ?_⟩
    refine fn_body (K := K) [] (fun _ => by show (2 : Nat) ≤ 2; decide) (fun _ => by show ∀ k ∈ ([] : List Nat), k < 2; decide) h (fun F a hec hE hK hpv => ?_)
    obtain ⟨x_signs, x_at⟩ := a
    show RS F [] [some (.f x_signs), some (.f x_at)] (m__law_flip x_signs x_at) _ _ _
    unfold m__law_flip
    refine rs_ret ?_
    refine rd_op2 o_add ?_
    refine rd_op2 o_add ?_
    refine rd_slS ?_
    refine rd_var rfl ?_
    intro _
    refine ro_none ?_
    refine ro_some ?_
    refine rd_var rfl ?_
    refine ⟨_, _, rfl, rfl, fun t4 => ?_⟩
    refine ⟨_, _, rfl, rfl, fun t3 => ?_⟩
    intro _
    refine rd_op2 o_ix ?_
    refine rd_str e_q_10 ?_
    intro _
    refine rd_cb1 o_int ?_
    refine rd_op2 o_ix ?_
    refine rd_var rfl ?_
    intro _
    refine rd_var rfl ?_
    refine ⟨_, _, _, rfl, rfl, rfl, fun t7 => ?_⟩
    refine ⟨_, _, rfl, rfl, fun t6 => ?_⟩
    refine ⟨_, _, _, rfl, rfl, rfl, fun t5 => ?_⟩
    refine ⟨_, _, _, rfl, rfl, rfl, fun t2 => ?_⟩
    intro _
    refine rd_slS ?_
    refine rd_var rfl ?_
    intro _
    refine ro_some ?_
    refine rd_op2 o_add ?_
    refine rd_var rfl ?_
    intro _
    refine rd_int ?_
    refine ⟨_, _, _, rfl, rfl, rfl, fun t10 => ?_⟩
    refine ⟨_, _, rfl, rfl, fun t9 => ?_⟩
    refine ro_none ?_
    refine ⟨_, _, rfl, rfl, fun t8 => ?_⟩
    refine ⟨_, _, _, rfl, rfl, rfl, fun t1 => ?_⟩
    refine ⟨_, rfl, ?_⟩
    exact ⟨_, rfl, rfl, trivial⟩
theorem ok__law_sheet (T : Tx K mg) : FnOk P w K mg base CX0 3 T.a__law_sheet T.d__law_sheet ["store", "most"] (spOf (A := (List D) × D) (R := D × (List D)) EC.ec (fun a => [.l a.1, .f a.2]) (fun a => m__law_sheet a.1 a.2) (fun r => shPT [0, 0, 0, 2] r.1) (fun r => [some (.l r.2), none])) := by
  refine T.F__law_sheet.ok sc__law_sheet (fun vs H Q E h => ?_) (fun cdv A outer s H vs Q E hr h => ?_)
  · obtain ⟨a, G, w, _, _, hl, _⟩ := h; exact hl
  · refine ⟨_, (pss_cons (ps_set (i := 2) sc__law_sheet.nd rfl (by first | exact .inl rfl | exact .inr rfl) (pe_call (ok__law_take T) (hr.mono (by decide)) (by rfl) T.g__law_take T.F__law_take.kp T.b__law_take .nil (show Passes CX0 _ E from pass0) (pa_cons (pv 0) (pa_cons pe_int pa_nil)))) (pss_cons (ps_set (i := 3) sc__law_sheet.nd rfl (by first | exact .inl rfl | exact .inr rfl) (pe_op op_addA pe_int (pe_call (ok__law_take T) (hr.mono (by decide)) (by rfl) T.g__law_take T.F__law_take.kp T.b__law_take .nil (show Passes CX0 _ E from pass0) (pa_cons (pv 0) (pa_cons (pe_ix (ix_anyK (Kf := K) (by rfl)) (pe_lst (pa_cons pe_int (pa_cons pe_int (pa_cons pe_int (pa_cons pe_int pa_nil))))) (pe_call (ok__law_take T) (hr.mono (by decide)) (by rfl) T.g__law_take T.F__law_take.kp T.b__law_take .nil (show Passes CX0 _ E from pass0) (pa_cons (pv 0) (pa_cons pe_int pa_nil))) (fun _ _ => rfl)) pa_nil))))) (pss_cons (ps_set (i := 4) sc__law_sheet.nd rfl (by first | exact .inl rfl | exact .inr rfl) (pe_call (ok__law_some_names T) (hr.mono (by decide)) (by rfl) T.g__law_some_names T.F__law_some_names.kp T.b__law_some_names .nil (show Passes CX0 _ E from pass0) (pa_cons (pv 0) (pa_cons (pe_op op_addA (pv 2) (pv 3)) pa_nil)))) (pss_cons (ps_set (i := 5) sc__law_sheet.nd rfl (by first | exact .inl rfl | exact .inr rfl) (pe_lst (pa_cons (pe_joinK (Kf := K) (by rfl) pe_str (pe_lc (own := [("name", 13)]) rfl (by exact sc__law_sheet.nd) (pi_listK (Kf := K) (by rfl) (pv 4)) blk__law_sheet_4 (fun _ _ _ _ _ => (pg_name (i := 13) sc__law_sheet.nd rfl (by first | exact .inl rfl | exact .inr rfl))) (fun _ _ _ _ _ => pts_nil) (fun _ _ _ _ _ => (pe_ix (ix_anyK (Kf := K) (by rfl)) pe_str (pe_call (ok__law_take T) (hr.mono (by decide)) (by rfl) T.g__law_take T.F__law_take.kp T.b__law_take .nil (show Passes CX0 _ E from pass0) (pa_cons (pv 0) (pa_cons pe_int pa_nil))) (fun _ _ => rfl))))) pa_nil))) (pss_cons (ps_set (i := 6) sc__law_sheet.nd rfl (by first | exact .inl rfl | exact .inr rfl) (pe_lst (pa_cons (pe_lst pa_nil) pa_nil))) (pss_cons (ps_for PassesOwn.never rfl (pi_range1 (by rfl) T.n_range (pa_cons (pe_call (ok__law_take T) (hr.mono (by decide)) (by rfl) T.g__law_take T.F__law_take.kp T.b__law_take .nil (show Passes CX0 _ E from pass0) (pa_cons (pv 0) (pa_cons (pv 1) pa_nil))) pa_nil)) (pg_name (i := 7) sc__law_sheet.nd rfl (by first | exact .inl rfl | exact .inr rfl)) (pss_cons (ps_set (i := 8) sc__law_sheet.nd rfl (by first | exact .inl rfl | exact .inr rfl) (pe_call (ok__law_take T) (hr.mono (by decide)) (by rfl) T.g__law_take T.F__law_take.kp T.b__law_take .nil (show Passes CX0 _ E from pass0) (pa_cons (pv 0) (pa_cons (pe_callB (call_lenK (Kf := K) (by rfl)) (by rfl) T.n_len PySem.boot_len (pa_cons (pv 6) pa_nil)) pa_nil)))) (pss_cons (ps_setLc (i := 9) (own := [("at", 10)]) rfl sc__law_sheet.nd rfl (by rfl) (by rfl) (pi_range1 (by rfl) T.n_range (pa_cons (pe_callB (call_lenK (Kf := K) (by rfl)) (by rfl) T.n_len PySem.boot_len (pa_cons (pv 4) pa_nil)) pa_nil)) blk__law_sheet_2 (fun _ _ _ _ _ => (pg_name (i := 10) sc__law_sheet.nd rfl (by first | exact .inl rfl | exact .inr rfl))) (fun _ _ _ _ _ => (pts_one (pt_cmpR (op_notInK (Kf := K) (by rfl)) (pe_ix (ix_anyK (Kf := K) (by rfl)) (pv 4) (pv 10) (fun _ _ => rfl)) (pe_lc (own := [("name", 13), ("to", 12)]) rfl (by exact sc__law_sheet.nd) (pi_listK (Kf := K) (by rfl) (pe_ix (ix_anyK (Kf := K) (by rfl)) (pv 6) (pv 8) (fun _ _ => rfl))) (by exact blk__law_sheet_3) (fun _ _ _ _ _ => (pg_tupK (Kf := K) (n := 2) (by rfl) rfl (pgs_cons (pg_name (i := 13) sc__law_sheet.nd rfl (by first | exact .inl rfl | exact .inr rfl)) (pgs_cons (pg_name (i := 12) sc__law_sheet.nd rfl (by first | exact .inl rfl | exact .inr rfl)) pgs_nil)))) (fun _ _ _ _ _ => pts_nil) (fun _ _ _ _ _ => (pv 13))) rfl))) (fun _ _ _ _ _ => (pv 10))) (pss_one (ps_if (pt_cmpR (op_neM (hu_64 hr)) (pv 9) (pe_lst pa_nil) (nomark _)) (pss_cons (ps_set (i := 10) sc__law_sheet.nd rfl (by first | exact .inl rfl | exact .inr rfl) (pe_ix (ix_anyK (Kf := K) (by rfl)) (pv 9) (pe_call (ok__law_take T) (hr.mono (by decide)) (by rfl) T.g__law_take T.F__law_take.kp T.b__law_take .nil (show Passes CX0 _ E from pass0) (pa_cons (pv 0) (pa_cons (pe_callB (call_lenK (Kf := K) (by rfl)) (by rfl) T.n_len PySem.boot_len (pa_cons (pv 9) pa_nil)) pa_nil))) (fun _ _ => rfl))) (pss_cons (ps_expr (pe_bmK (Kf := K) (by rfl) PySem.F.plainAttrs_list PySem.F.slot_list_append PySem.F.type_list_append mt_append (pe_ix (ix_anyK (Kf := K) (by rfl)) (pv 6) (pv 8) (fun _ _ => rfl)) (pa_cons (pe_tup (pa_cons (pe_ix (ix_anyK (Kf := K) (by rfl)) (pv 4) (pv 10) (fun _ _ => rfl)) (pa_cons (pe_callB (call_lenK (Kf := K) (by rfl)) (by rfl) T.n_len PySem.boot_len (pa_cons (pv 6) pa_nil)) pa_nil))) pa_nil))) (pss_cons (ps_expr (pe_bmK (Kf := K) (by rfl) PySem.F.plainAttrs_list PySem.F.slot_list_append PySem.F.type_list_append mt_append (pv 5) (pa_cons (pe_call (ok__law_flip T) (hr.mono (by decide)) (by rfl) T.g__law_flip T.F__law_flip.kp T.b__law_flip .nil (show Passes CX0 _ E from pass0) (pa_cons (pe_ix (ix_anyK (Kf := K) (by rfl)) (pv 5) (pv 8) (fun _ _ => rfl)) (pa_cons (pv 10) pa_nil))) pa_nil))) (pss_one (ps_expr (pe_bmK (Kf := K) (by rfl) PySem.F.plainAttrs_list PySem.F.slot_list_append PySem.F.type_list_append mt_append (pv 6) (pa_cons (pe_lst pa_nil) pa_nil))))))) pss_nil))))) (pss_cons (ps_for PassesOwn.never rfl (pi_range1 (by rfl) T.n_range (pa_cons (pe_call (ok__law_take T) (hr.mono (by decide)) (by rfl) T.g__law_take T.F__law_take.kp T.b__law_take .nil (show Passes CX0 _ E from pass0) (pa_cons (pv 0) (pa_cons (pe_op op_mul pe_int (pv 1)) pa_nil))) pa_nil)) (pg_name (i := 7) sc__law_sheet.nd rfl (by first | exact .inl rfl | exact .inr rfl)) (pss_cons (ps_set (i := 8) sc__law_sheet.nd rfl (by first | exact .inl rfl | exact .inr rfl) (pe_call (ok__law_take T) (hr.mono (by decide)) (by rfl) T.g__law_take T.F__law_take.kp T.b__law_take .nil (show Passes CX0 _ E from pass0) (pa_cons (pv 0) (pa_cons (pe_callB (call_lenK (Kf := K) (by rfl)) (by rfl) T.n_len PySem.boot_len (pa_cons (pv 6) pa_nil)) pa_nil)))) (pss_cons (ps_set (i := 10) sc__law_sheet.nd rfl (by first | exact .inl rfl | exact .inr rfl) (pe_call (ok__law_take T) (hr.mono (by decide)) (by rfl) T.g__law_take T.F__law_take.kp T.b__law_take .nil (show Passes CX0 _ E from pass0) (pa_cons (pv 0) (pa_cons (pe_callB (call_lenK (Kf := K) (by rfl)) (by rfl) T.n_len PySem.boot_len (pa_cons (pv 4) pa_nil)) pa_nil)))) (pss_cons (ps_setLc (i := 11) (own := [("to", 12)]) rfl sc__law_sheet.nd rfl (by rfl) (by rfl) (pi_range1 (by rfl) T.n_range (pa_cons (pe_callB (call_lenK (Kf := K) (by rfl)) (by rfl) T.n_len PySem.boot_len (pa_cons (pv 6) pa_nil)) pa_nil)) blk__law_sheet_1 (fun _ _ _ _ _ => (pg_name (i := 12) sc__law_sheet.nd rfl (by first | exact .inl rfl | exact .inr rfl))) (fun _ _ _ _ _ => (pts_one (pt_cmpR (op_eqM (hu_64 hr)) (pe_ix (ix_anyK (Kf := K) (by rfl)) (pv 5) (pv 12) (fun _ _ => rfl)) (pe_call (ok__law_flip T) (hr.mono (by decide)) (by rfl) T.g__law_flip T.F__law_flip.kp T.b__law_flip .nil (show Passes CX0 _ E from pass0) (pa_cons (pe_ix (ix_anyK (Kf := K) (by rfl)) (pv 5) (pv 8) (fun _ _ => rfl)) (pa_cons (pv 10) pa_nil))) (nomark _)))) (fun _ _ _ _ _ => (pv 12))) (pss_one (ps_if (pw_and (pt_cmpR (op_neM (hu_64 hr)) (pv 11) (pe_lst pa_nil) (nomark _)) (pw_and1 (pt_cmpR (op_notInK (Kf := K) (by rfl)) (pe_ix (ix_anyK (Kf := K) (by rfl)) (pv 4) (pv 10) (fun _ _ => rfl)) (pe_lc (own := [("name", 13), ("to", 12)]) rfl (by exact sc__law_sheet.nd) (pi_listK (Kf := K) (by rfl) (pe_ix (ix_anyK (Kf := K) (by rfl)) (pv 6) (pv 8) (fun _ _ => rfl))) blk__law_sheet_0 (fun _ _ _ _ _ => (pg_tupK (Kf := K) (n := 2) (by rfl) rfl (pgs_cons (pg_name (i := 13) sc__law_sheet.nd rfl (by first | exact .inl rfl | exact .inr rfl)) (pgs_cons (pg_name (i := 12) sc__law_sheet.nd rfl (by first | exact .inl rfl | exact .inr rfl)) pgs_nil)))) (fun _ _ _ _ _ => pts_nil) (fun _ _ _ _ _ => (pv 13))) rfl))).pt (pss_one (ps_expr (pe_bmK (Kf := K) (by rfl) PySem.F.plainAttrs_list PySem.F.slot_list_append PySem.F.type_list_append mt_append (pe_ix (ix_anyK (Kf := K) (by rfl)) (pv 6) (pv 8) (fun _ _ => rfl)) (pa_cons (pe_tup (pa_cons (pe_ix (ix_anyK (Kf := K) (by rfl)) (pv 4) (pv 10) (fun _ _ => rfl)) (pa_cons (pe_ix (ix_anyK (Kf := K) (by rfl)) (pv 11) (pe_call (ok__law_take T) (hr.mono (by decide)) (by rfl) T.g__law_take T.F__law_take.kp T.b__law_take .nil (show Passes CX0 _ E from pass0) (pa_cons (pv 0) (pa_cons (pe_callB (call_lenK (Kf := K) (by rfl)) (by rfl) T.n_len PySem.boot_len (pa_cons (pv 11) pa_nil)) pa_nil))) (fun _ _ => rfl)) pa_nil))) pa_nil)))) pss_nil)))))) (pss_cons (ps_for PassesOwn.never rfl (pi_range1 (by rfl) T.n_range (pa_cons (pe_op op_mul (pe_ix (ix_anyK (Kf := K) (by rfl)) (pe_lst (pa_cons pe_int (pa_cons pe_int (pa_cons pe_int (pa_cons pe_int pa_nil))))) (pe_call (ok__law_take T) (hr.mono (by decide)) (by rfl) T.g__law_take T.F__law_take.kp T.b__law_take .nil (show Passes CX0 _ E from pass0) (pa_cons (pv 0) (pa_cons pe_int pa_nil))) (fun _ _ => rfl)) (pe_callTy call_intA (by rfl) T.n_int PyProof.Rows.boot_int (pa_cons (pe_cmpR op_ltA (pe_callB (call_lenK (Kf := K) (by rfl)) (by rfl) T.n_len PySem.boot_len (pa_cons (pv 6) pa_nil)) pe_int (nomark _)) pa_nil))) pa_nil)) (pg_name (i := 7) sc__law_sheet.nd rfl (by first | exact .inl rfl | exact .inr rfl)) (pss_one (ps_expr (pe_bmK (Kf := K) (by rfl) PySem.F.plainAttrs_list PySem.F.slot_list_append PySem.F.type_list_append mt_append (pv 6) (pa_cons (pe_lst (pa_cons (pe_tup (pa_cons (pe_ix (ix_anyK (Kf := K) (by rfl)) (pv 4) (pe_call (ok__law_take T) (hr.mono (by decide)) (by rfl) T.g__law_take T.F__law_take.kp T.b__law_take .nil (show Passes CX0 _ E from pass0) (pa_cons (pv 0) (pa_cons (pe_callB (call_lenK (Kf := K) (by rfl)) (by rfl) T.n_len PySem.boot_len (pa_cons (pv 4) pa_nil)) pa_nil))) (fun _ _ => rfl)) (pa_cons (pe_call (ok__law_take T) (hr.mono (by decide)) (by rfl) T.g__law_take T.F__law_take.kp T.b__law_take .nil (show Passes CX0 _ E from pass0) (pa_cons (pv 0) (pa_cons (pe_op op_addA (pe_callB (call_lenK (Kf := K) (by rfl)) (by rfl) T.n_len PySem.boot_len (pa_cons (pv 6) pa_nil)) pe_int) pa_nil))) pa_nil))) pa_nil)) pa_nil))))) (pss_one (ps_ret (pe_tup (pa_cons (pe_slice (sl_listK (Kf := K) (by rfl)) (pv 4) po_none (po_some (pv 2))) (pa_cons (pe_slice (sl_listK (Kf := K) (by rfl)) (pv 4) (po_some (pv 2)) po_none) (pa_cons (pe_ix (ix_anyK (Kf := K) (by rfl)) (pv 5) pe_int (fun _ _ => rfl)) (pa_cons (pv 6) pa_nil))))))))))))))), ?_⟩
    refine fn_body (K := K) [0] (fun _ => by show (2 : Nat) ≤ 14; decide) (fun _ => by show ∀ k ∈ ([0] : List Nat), k < 2; decide) h (fun F a hec hE hK hpv => ?_)
    obtain ⟨x_store, x_most⟩ := a
    show RS F [] [some (.l x_store), some (.f x_most), none, none, none, none, none, none, none, none, none, none, none, none] (m__law_sheet x_store x_most) _ _ _
    unfold m__law_sheet
    refine rs_seq ?_
    refine rs_set ?_ rfl (hpv _ (by decide))
    refine rd_call hec hE ?_
    refine ra_cons ?_
    refine rd_ali rfl ?_
    intro _
    refine ra_cons ?_
    refine rd_int ?_
    intro _
    refine ra_nil ?_
    refine ⟨(x_store, (.int 5)), _, rfl, rfl, rfl, fun r1 => ?_⟩
    refine ⟨_, rfl, (by show (2 : Nat) < 14; decide), ?_⟩
    refine rs_at [some (.l r1.2), some (.f x_most), some (.f r1.1), none, none, none, none, none, none, none, none, none, none, none] rfl ?_
    refine rs_seq ?_
    refine rs_set ?_ rfl (hpv _ (by decide))
    refine rd_op2 o_add ?_
    refine rd_int ?_
    intro _
    refine rd_call hec hE ?_
    refine ra_cons ?_
    refine rd_ali rfl ?_
    intro _
    refine ra_cons ?_
    refine rd_op2 o_ix ?_
    refine rd_lst ?_
    refine ra_cons ?_
    refine rd_int ?_
    intro _
    refine ra_cons ?_
    refine rd_int ?_
    intro _
    refine ra_cons ?_
    refine rd_int ?_
    intro _
    refine ra_cons ?_
    refine rd_int ?_
    intro _
    refine ra_nil ?_
    refine ⟨[(.int 3), (.int 3), (.int 3), (.int 7)], rfl, (by show (4 : Nat) ≤ 1000; decide), ?_⟩
    intro _
    refine rd_call hec hE ?_
    refine ra_cons ?_
    refine rd_ali rfl ?_
    intro _
    refine ra_cons ?_
    refine rd_int ?_
    intro _
    refine ra_nil ?_
    refine ⟨(r1.2, (.int 4)), _, rfl, rfl, rfl, fun r5 => ?_⟩
    refine ⟨_, _, _, rfl, rfl, rfl, fun t4 => ?_⟩
    intro _
    refine ra_nil ?_
    refine ⟨(r5.2, t4), _, rfl, rfl, rfl, fun r3 => ?_⟩
    refine ⟨_, _, _, rfl, rfl, rfl, fun t2 => ?_⟩
    refine ⟨_, rfl, (by show (3 : Nat) < 14; decide), ?_⟩
    refine rs_at [some (.l r3.2), some (.f x_most), some (.f r1.1), some (.f t2), none, none, none, none, none, none, none, none, none, none] rfl ?_
    refine rs_seq ?_
    refine rs_set ?_ rfl (hpv _ (by decide))
    refine rd_fz ?_
    refine rd_call hec hE ?_
    refine ra_cons ?_
    refine rd_ali rfl ?_
    intro _
    refine ra_cons ?_
    refine rd_op2 o_add ?_
    refine rd_var rfl ?_
    intro _
    refine rd_var rfl ?_
    refine ⟨_, _, _, rfl, rfl, rfl, fun t7 => ?_⟩
    intro _
    refine ra_nil ?_
    refine ⟨(r3.2, t7), _, rfl, rfl, rfl, fun r6 => ?_⟩
    refine ⟨_, rfl, ?_⟩
    refine ⟨_, rfl, (by show (4 : Nat) < 14; decide), ?_⟩
    refine rs_at [some (.l r6.2), some (.f x_most), some (.f r1.1), some (.f t2), some (.f (.lst r6.1)), none, none, none, none, none, none, none, none, none] rfl ?_
    refine rs_seq ?_
    refine rs_set ?_ rfl (hpv _ (by decide))
    refine rd_lst ?_
    refine ra_cons ?_
    refine rd_jn ?_
    refine rd_str e_qx_ ?_
    refine ⟨_, _, rfl, rfl, fun t9 _ => ?_⟩
    refine rd_lc (Z := (List D)) [13] (fun i hi => hi) (all1 (hpv _ (by decide))) ?_
    refine ri_lst ?_
    refine rd_var rfl ?_
    refine ⟨_, _, rfl, rfl, fun ds13 _ => ?_⟩
    refine ⟨fun z11 => [some (.l z11), some (.f x_most), some (.f r1.1), some (.f t2), some (.f (.lst r6.1)), none, none, none, none, none, none, none, none, none], r6.2, _, _, rfl, ⟨.inr rfl, ⟨.inr rfl, ⟨.inr rfl, ⟨.inr rfl, ⟨.inr rfl, ⟨.inl rfl, ⟨.inl rfl, ⟨.inl rfl, ⟨.inl rfl, ⟨.inl rfl, ⟨.inl rfl, ⟨.inl rfl, ⟨.inl rfl, ⟨.inl rfl, trivial⟩⟩⟩⟩⟩⟩⟩⟩⟩⟩⟩⟩⟩⟩, fun _ => (by first | exact trivial | rfl | exact ⟨rfl, rfl⟩), fun _ => (all1 rfl), rfl, fun z11 d10 _ _ => ?_, fun p12 => ?_⟩
    · refine rg_name (by show (13 : Nat) < 14; decide) rfl (hpv _ (by decide)) ?_
      refine rt_true rfl ?_
      refine ⟨_, .ok (none, z11), (if_pos rfl).symm, fun _ => ?_, fun h => by cases h⟩
      refine rd_op2 o_ix ?_
      refine rd_str e_q_01 ?_
      intro _
      refine rd_call hec hE ?_
      refine ra_cons ?_
      refine rd_ali rfl ?_
      intro _
      refine ra_cons ?_
      refine rd_int ?_
      intro _
      refine ra_nil ?_
      refine ⟨(z11, (.int 2)), _, rfl, rfl, rfl, fun r15 => ?_⟩
      refine ⟨_, _, _, rfl, rfl, rfl, fun t14 => ?_⟩
      exact ⟨_, _, rfl, rfl, ⟨.inr rfl, ⟨.inr rfl, ⟨.inr rfl, ⟨.inr rfl, ⟨.inr rfl, ⟨.inl rfl, ⟨.inl rfl, ⟨.inl rfl, ⟨.inl rfl, ⟨.inl rfl, ⟨.inl rfl, ⟨.inl rfl, ⟨.inl rfl, ⟨.inl rfl, trivial⟩⟩⟩⟩⟩⟩⟩⟩⟩⟩⟩⟩⟩⟩⟩
    · refine ⟨_, _, _, rfl, rfl, rfl, fun t8 => ?_⟩
      intro _
      refine ra_nil ?_
      refine ⟨[t8], rfl, (by show (1 : Nat) ≤ 1000; decide), ?_⟩
      refine ⟨_, rfl, (by show (5 : Nat) < 14; decide), ?_⟩
      refine rs_at [some (.l p12.2), some (.f x_most), some (.f r1.1), some (.f t2), some (.f (.lst r6.1)), some (.l [t8]), none, none, none, none, none, none, none, none] rfl ?_
      refine rs_seq ?_
      refine rs_set ?_ rfl (hpv _ (by decide))
      refine rd_lstO ?_
      refine ra_cons ?_
      refine rd_lst ?_
      refine ra_nil ?_
      refine ⟨[], rfl, (by show (0 : Nat) ≤ 1000; decide), ?_⟩
      intro _
      refine ra_nil ?_
      refine ⟨([[]] : List (List D)).map VL.T.l, rfl, (by show (1 : Nat) ≤ 1000; decide), ?_⟩
      refine ⟨_, rfl, (by show (6 : Nat) < 14; decide), ?_⟩
      refine rs_at [some (.l p12.2), some (.f x_most), some (.f r1.1), some (.f t2), some (.f (.lst r6.1)), some (.l [t8]), some (.ll ((([[]] : List (List D))).map VL.T.l)), none, none, none, none, none, none, none] rfl ?_
      refine rs_seq ?_
      refine rs_forN (Z := ((List D) × (List (List D)) × (List D))) [7] ?_
      refine ri_range1 ?_
      refine rd_call hec hE ?_
      refine ra_cons ?_
      refine rd_ali rfl ?_
      intro _
      refine ra_cons ?_
      refine rd_var rfl ?_
      intro _
      refine ra_nil ?_
      refine ⟨(p12.2, x_most), _, rfl, rfl, rfl, fun r19 => ?_⟩
      refine ⟨_, _, rfl, rfl, fun ds18 => ?_⟩
      refine ⟨fun z17 => [some (.l z17.1), some (.f x_most), some (.f r1.1), some (.f t2), some (.f (.lst r6.1)), some (.l z17.2.2), some (.ll ((z17.2.1).map VL.T.l)), none, none, none, none, none, none, none], _, _, _, rfl, ⟨.inr rfl, ⟨.inr rfl, ⟨.inr rfl, ⟨.inr rfl, ⟨.inr rfl, ⟨.inr rfl, ⟨.inr rfl, ⟨.inl rfl, ⟨.inl rfl, ⟨.inl rfl, ⟨.inl rfl, ⟨.inl rfl, ⟨.inl rfl, ⟨.inl rfl, trivial⟩⟩⟩⟩⟩⟩⟩⟩⟩⟩⟩⟩⟩⟩, fun _ => (by first | exact trivial | rfl | exact ⟨rfl, rfl⟩), fun z17 d16 => ?_, fun z17 => ?_⟩
      · refine rg_name (by show (7 : Nat) < 14; decide) rfl (hpv _ (by decide)) ?_
        refine rs_at [some (.l z17.1), some (.f x_most), some (.f r1.1), some (.f t2), some (.f (.lst r6.1)), some (.l z17.2.2), some (.ll ((z17.2.1).map VL.T.l)), some (.f d16), none, none, none, none, none, none] rfl ?_
        refine rs_seq ?_
        refine rs_set ?_ rfl (hpv _ (by decide))
        refine rd_call hec hE ?_
        refine ra_cons ?_
        refine rd_ali rfl ?_
        intro _
        refine ra_cons ?_
        refine rd_lenN (n := (z17.2.1).length) rfl (by simp) ?_
        intro _
        refine ra_nil ?_
        refine ⟨(z17.1, (.int ((z17.2.1).length : Nat))), _, rfl, rfl, rfl, fun r20 => ?_⟩
        refine ⟨_, rfl, (by show (8 : Nat) < 14; decide), ?_⟩
        refine rs_at [some (.l r20.2), some (.f x_most), some (.f r1.1), some (.f t2), some (.f (.lst r6.1)), some (.l z17.2.2), some (.ll ((z17.2.1).map VL.T.l)), some (.f d16), some (.f r20.1), none, none, none, none, none] rfl ?_
        refine rs_seq ?_
        refine rs_set ?_ rfl (hpv _ (by decide))
        refine rd_fz ?_
        refine rd_lcR [10] (fun i hi => hi) (all1 (hpv _ (by decide))) ?_
        refine ri_range1 ?_
        refine rd_cb1 o_len ?_
        refine rd_var rfl ?_
        refine ⟨_, _, rfl, rfl, fun t24 => ?_⟩
        refine ⟨_, _, rfl, rfl, fun ds23 => ?_⟩
        refine ⟨[some (.l r20.2), some (.f x_most), some (.f r1.1), some (.f t2), some (.f (.lst r6.1)), some (.l z17.2.2), some (.ll ((z17.2.1).map VL.T.l)), some (.f d16), some (.f r20.1), none, none, none, none, none], _, _, rfl, ⟨.inr rfl, ⟨.inr rfl, ⟨.inr rfl, ⟨.inr rfl, ⟨.inr rfl, ⟨.inr rfl, ⟨.inr rfl, ⟨.inr rfl, ⟨.inr rfl, ⟨.inl rfl, ⟨.inl rfl, ⟨.inl rfl, ⟨.inl rfl, ⟨.inl rfl, trivial⟩⟩⟩⟩⟩⟩⟩⟩⟩⟩⟩⟩⟩⟩, (by first | exact trivial | rfl | exact ⟨rfl, rfl⟩), (all1 rfl), rfl, fun d21 _ _ => ?_, fun ys22 => ?_⟩
        · refine rg_name (by show (10 : Nat) < 14; decide) rfl (hpv _ (by decide)) ?_
          refine rt_op2B o_notIn ?_
          refine rd_op2 o_ix ?_
          refine rd_var rfl ?_
          intro _
          refine rd_var rfl ?_
          refine ⟨_, _, _, rfl, rfl, rfl, fun t26 => ?_⟩
          intro _
          refine rd_lcR [13, 12] (fun i hi => hi) (all2 (hpv _ (by decide)) (hpv _ (by decide))) ?_
          refine ri_el (ls0 := z17.2.1) rfl (fun _ => ?_)
          refine rd_var rfl ?_
          refine ⟨_, z17.2.1, _, rfl, rfl, rfl, fun j30 v31 => ?_⟩
          refine ⟨[some (.l r20.2), some (.f x_most), some (.f r1.1), some (.f t2), some (.f (.lst r6.1)), some (.l z17.2.2), some (.ll (((z17.2.1).map VL.T.l).set j30 (.hole v31))), some (.f d16), some (.f r20.1), none, some (.f d21), none, none, none], _, _, rfl, ⟨.inr rfl, ⟨.inr rfl, ⟨.inr rfl, ⟨.inr rfl, ⟨.inr rfl, ⟨.inr rfl, ⟨.inr rfl, ⟨.inr rfl, ⟨.inr rfl, ⟨.inl rfl, ⟨.inr rfl, ⟨.inl rfl, ⟨.inl rfl, ⟨.inl rfl, trivial⟩⟩⟩⟩⟩⟩⟩⟩⟩⟩⟩⟩⟩⟩, (by first | exact trivial | rfl | exact ⟨rfl, rfl⟩), (all2 rfl rfl), rfl, fun d27 _ _ => ?_, fun ys28 => ?_⟩
          · refine rg_n2 ⟨_, rfl, fun p32 => ?_⟩
            refine rgs_cons (by show (13 : Nat) < 14; decide) rfl (hpv _ (by decide)) ?_
            refine rgs_cons (by show (12 : Nat) < 14; decide) rfl (hpv _ (by decide)) ?_
            refine rgs_nil ?_
            refine rt_true rfl ?_
            refine ⟨_, .ok none, (if_pos rfl).symm, fun _ => ?_, fun h => by cases h⟩
            refine rd_var rfl ?_
            exact ⟨_, rfl, rfl, ⟨.inr rfl, ⟨.inr rfl, ⟨.inr rfl, ⟨.inr rfl, ⟨.inr rfl, ⟨.inr rfl, ⟨.inr rfl, ⟨.inr rfl, ⟨.inr rfl, ⟨.inl rfl, ⟨.inr rfl, ⟨.inl rfl, ⟨.inl rfl, ⟨.inl rfl, trivial⟩⟩⟩⟩⟩⟩⟩⟩⟩⟩⟩⟩⟩⟩⟩
          · refine ⟨_, _, _, rfl, rfl, rfl, fun t25 => ?_⟩
            refine ⟨_, _, rfl, fun _ => ?_, fun _ => ⟨rfl, ⟨.inr rfl, ⟨.inr rfl, ⟨.inr rfl, ⟨.inr rfl, ⟨.inr rfl, ⟨.inr rfl, ⟨.inr rfl, ⟨.inr rfl, ⟨.inr rfl, ⟨.inl rfl, ⟨.inl rfl, ⟨.inl rfl, ⟨.inl rfl, ⟨.inl rfl, trivial⟩⟩⟩⟩⟩⟩⟩⟩⟩⟩⟩⟩⟩⟩⟩⟩
            refine rd_var rfl ?_
            exact ⟨_, rfl, rfl, ⟨.inr rfl, ⟨.inr rfl, ⟨.inr rfl, ⟨.inr rfl, ⟨.inr rfl, ⟨.inr rfl, ⟨.inr rfl, ⟨.inr rfl, ⟨.inr rfl, ⟨.inl rfl, ⟨.inl rfl, ⟨.inl rfl, ⟨.inl rfl, ⟨.inl rfl, trivial⟩⟩⟩⟩⟩⟩⟩⟩⟩⟩⟩⟩⟩⟩⟩
        · refine ⟨_, rfl, ?_⟩
          refine ⟨_, rfl, (by show (9 : Nat) < 14; decide), ?_⟩
          refine rs_at [some (.l r20.2), some (.f x_most), some (.f r1.1), some (.f t2), some (.f (.lst r6.1)), some (.l z17.2.2), some (.ll ((z17.2.1).map VL.T.l)), some (.f d16), some (.f r20.1), some (.f (.lst ys22)), none, none, none, none] rfl ?_
          refine rs_if ?_
          refine rt_op2B o_ne ?_
          refine rd_var rfl ?_
          intro _
          refine rd_lst ?_
          refine ra_nil ?_
          refine ⟨[], rfl, (by show (0 : Nat) ≤ 1000; decide), ?_⟩
          refine ⟨_, _, _, rfl, rfl, rfl, fun t33 => ?_⟩
          refine ⟨_, _, rfl, fun _ => ?_, fun _ => ?_⟩
          · refine rs_seq ?_
            refine rs_set ?_ rfl (hpv _ (by decide))
            refine rd_op2 o_ix ?_
            refine rd_var rfl ?_
            intro _
            refine rd_call hec hE ?_
            refine ra_cons ?_
            refine rd_ali rfl ?_
            intro _
            refine ra_cons ?_
            refine rd_cb1 o_len ?_
            refine rd_var rfl ?_
            refine ⟨_, _, rfl, rfl, fun t36 => ?_⟩
            intro _
            refine ra_nil ?_
            refine ⟨(r20.2, t36), _, rfl, rfl, rfl, fun r35 => ?_⟩
            refine ⟨_, _, _, rfl, rfl, rfl, fun t34 => ?_⟩
            refine ⟨_, rfl, (by show (10 : Nat) < 14; decide), ?_⟩
            refine rs_at [some (.l r35.2), some (.f x_most), some (.f r1.1), some (.f t2), some (.f (.lst r6.1)), some (.l z17.2.2), some (.ll ((z17.2.1).map VL.T.l)), some (.f d16), some (.f r20.1), some (.f (.lst ys22)), some (.f t34), none, none, none] rfl ?_
            refine rs_seq ?_
            refine rs_drop ?_
            refine rd_append2 (ls0 := z17.2.1) rfl (fun _ => ?_)
            refine rd_var rfl ?_
            refine ⟨_, z17.2.1, _, rfl, rfl, rfl, fun j37 v38 => ?_⟩
            refine rd_tup ?_
            refine ra_cons ?_
            refine rd_op2 o_ix ?_
            refine rd_var rfl ?_
            intro _
            refine rd_var rfl ?_
            refine ⟨_, _, _, rfl, rfl, rfl, fun t40 => ?_⟩
            intro _
            refine ra_cons ?_
            refine rd_lenN (n := (z17.2.1).length) rfl (by simp) ?_
            intro _
            refine ra_nil ?_
            refine ⟨[t40, (.int ((z17.2.1).length : Nat))], rfl, (by show (2 : Nat) ≤ 1000; decide), ?_⟩
            refine ⟨_, _, rfl, rfl, rfl, fun t39 => ?_⟩
            refine rs_at [some (.l r35.2), some (.f x_most), some (.f r1.1), some (.f t2), some (.f (.lst r6.1)), some (.l z17.2.2), some (.ll ((((z17.2.1).set j37 t39)).map VL.T.l)), some (.f d16), some (.f r20.1), some (.f (.lst ys22)), some (.f t34), none, none, none] rfl ?_
            refine rs_seq ?_
            refine rs_drop ?_
            refine rd_append ?_
            refine rd_ali rfl ?_
            refine ⟨5, _, rfl, rfl, fun _ => ?_⟩
            refine rd_call hec hE ?_
            refine ra_cons ?_
            refine rd_op2 o_ix ?_
            refine rd_ali rfl ?_
            intro _
            refine rd_var rfl ?_
            refine ⟨_, _, _, rfl, rfl, rfl, fun t43 => ?_⟩
            intro _
            refine ra_cons ?_
            refine rd_var rfl ?_
            intro _
            refine ra_nil ?_
            refine ⟨(t43, t34), _, rfl, rfl, rfl, fun r42 => ?_⟩
            refine ⟨_, _, _, rfl, rfl, rfl, fun t41 => ?_⟩
            refine rs_at [some (.l r35.2), some (.f x_most), some (.f r1.1), some (.f t2), some (.f (.lst r6.1)), some (.l t41), some (.ll ((((z17.2.1).set j37 t39)).map VL.T.l)), some (.f d16), some (.f r20.1), some (.f (.lst ys22)), some (.f t34), none, none, none] rfl ?_
            refine rs_drop ?_
            refine rd_appendO ⟨_, rfl⟩ (fun _ => ?_)
            refine rd_lst ?_
            refine ra_nil ?_
            refine ⟨[], rfl, (by show (0 : Nat) ≤ 1000; decide), ?_⟩
            refine ⟨_, _, _, rfl, rfl, rfl, ?_⟩
            rw [mapTl]
            exact ⟨_, rfl, ⟨.inr rfl, ⟨.inr rfl, ⟨.inr rfl, ⟨.inr rfl, ⟨.inr rfl, ⟨.inr rfl, ⟨.inr rfl, ⟨.inl rfl, ⟨.inl rfl, ⟨.inl rfl, ⟨.inl rfl, ⟨.inl rfl, ⟨.inl rfl, ⟨.inl rfl, trivial⟩⟩⟩⟩⟩⟩⟩⟩⟩⟩⟩⟩⟩⟩⟩
          · refine rs_next ?_
            exact ⟨_, rfl, ⟨.inr rfl, ⟨.inr rfl, ⟨.inr rfl, ⟨.inr rfl, ⟨.inr rfl, ⟨.inr rfl, ⟨.inr rfl, ⟨.inl rfl, ⟨.inl rfl, ⟨.inl rfl, ⟨.inl rfl, ⟨.inl rfl, ⟨.inl rfl, ⟨.inl rfl, trivial⟩⟩⟩⟩⟩⟩⟩⟩⟩⟩⟩⟩⟩⟩⟩
      · refine rs_at [some (.l z17.1), some (.f x_most), some (.f r1.1), some (.f t2), some (.f (.lst r6.1)), some (.l z17.2.2), some (.ll ((z17.2.1).map VL.T.l)), none, none, none, none, none, none, none] rfl ?_
        refine rs_seq ?_
        refine rs_forN (Z := ((List D) × (List (List D)))) [7] ?_
        refine ri_range1 ?_
        refine rd_call hec hE ?_
        refine ra_cons ?_
        refine rd_ali rfl ?_
        intro _
        refine ra_cons ?_
        refine rd_op2 o_mul ?_
        refine rd_int ?_
        intro _
        refine rd_var rfl ?_
        refine ⟨_, _, _, rfl, rfl, rfl, fun t49 => ?_⟩
        intro _
        refine ra_nil ?_
        refine ⟨(z17.1, t49), _, rfl, rfl, rfl, fun r48 => ?_⟩
        refine ⟨_, _, rfl, rfl, fun ds47 => ?_⟩
        refine ⟨fun z46 => [some (.l z46.1), some (.f x_most), some (.f r1.1), some (.f t2), some (.f (.lst r6.1)), some (.l z17.2.2), some (.ll ((z46.2).map VL.T.l)), none, none, none, none, none, none, none], _, _, _, rfl, ⟨.inr rfl, ⟨.inr rfl, ⟨.inr rfl, ⟨.inr rfl, ⟨.inr rfl, ⟨.inr rfl, ⟨.inr rfl, ⟨.inl rfl, ⟨.inl rfl, ⟨.inl rfl, ⟨.inl rfl, ⟨.inl rfl, ⟨.inl rfl, ⟨.inl rfl, trivial⟩⟩⟩⟩⟩⟩⟩⟩⟩⟩⟩⟩⟩⟩, fun _ => (by first | exact trivial | rfl | exact ⟨rfl, rfl⟩), fun z46 d45 => ?_, fun z46 => ?_⟩
        · refine rg_name (by show (7 : Nat) < 14; decide) rfl (hpv _ (by decide)) ?_
          refine rs_at [some (.l z46.1), some (.f x_most), some (.f r1.1), some (.f t2), some (.f (.lst r6.1)), some (.l z17.2.2), some (.ll ((z46.2).map VL.T.l)), some (.f d45), none, none, none, none, none, none] rfl ?_
          refine rs_seq ?_
          refine rs_set ?_ rfl (hpv _ (by decide))
          refine rd_call hec hE ?_
          refine ra_cons ?_
          refine rd_ali rfl ?_
          intro _
          refine ra_cons ?_
          refine rd_lenN (n := (z46.2).length) rfl (by simp) ?_
          intro _
          refine ra_nil ?_
          refine ⟨(z46.1, (.int ((z46.2).length : Nat))), _, rfl, rfl, rfl, fun r50 => ?_⟩
          refine ⟨_, rfl, (by show (8 : Nat) < 14; decide), ?_⟩
          refine rs_at [some (.l r50.2), some (.f x_most), some (.f r1.1), some (.f t2), some (.f (.lst r6.1)), some (.l z17.2.2), some (.ll ((z46.2).map VL.T.l)), some (.f d45), some (.f r50.1), none, none, none, none, none] rfl ?_
          refine rs_seq ?_
          refine rs_set ?_ rfl (hpv _ (by decide))
          refine rd_call hec hE ?_
          refine ra_cons ?_
          refine rd_ali rfl ?_
          intro _
          refine ra_cons ?_
          refine rd_cb1 o_len ?_
          refine rd_var rfl ?_
          refine ⟨_, _, rfl, rfl, fun t52 => ?_⟩
          intro _
          refine ra_nil ?_
          refine ⟨(r50.2, t52), _, rfl, rfl, rfl, fun r51 => ?_⟩
          refine ⟨_, rfl, (by show (10 : Nat) < 14; decide), ?_⟩
          refine rs_at [some (.l r51.2), some (.f x_most), some (.f r1.1), some (.f t2), some (.f (.lst r6.1)), some (.l z17.2.2), some (.ll ((z46.2).map VL.T.l)), some (.f d45), some (.f r50.1), none, some (.f r51.1), none, none, none] rfl ?_
          refine rs_seq ?_
          refine rs_set ?_ rfl (hpv _ (by decide))
          refine rd_fz ?_
          refine rd_lcR [12] (fun i hi => hi) (all1 (hpv _ (by decide))) ?_
          refine ri_range1 ?_
          refine rd_lenN (n := (z46.2).length) rfl (by simp) ?_
          refine ⟨_, _, rfl, rfl, fun ds55 => ?_⟩
          refine ⟨[some (.l r51.2), some (.f x_most), some (.f r1.1), some (.f t2), some (.f (.lst r6.1)), some (.l z17.2.2), some (.ll ((z46.2).map VL.T.l)), some (.f d45), some (.f r50.1), none, some (.f r51.1), none, none, none], _, _, rfl, ⟨.inr rfl, ⟨.inr rfl, ⟨.inr rfl, ⟨.inr rfl, ⟨.inr rfl, ⟨.inr rfl, ⟨.inr rfl, ⟨.inr rfl, ⟨.inr rfl, ⟨.inl rfl, ⟨.inr rfl, ⟨.inl rfl, ⟨.inl rfl, ⟨.inl rfl, trivial⟩⟩⟩⟩⟩⟩⟩⟩⟩⟩⟩⟩⟩⟩, (by first | exact trivial | rfl | exact ⟨rfl, rfl⟩), (all1 rfl), rfl, fun d53 _ _ => ?_, fun ys54 => ?_⟩
          · refine rg_name (by show (12 : Nat) < 14; decide) rfl (hpv _ (by decide)) ?_
            refine rt_op2B o_eq ?_
            refine rd_op2 o_ix ?_
            refine rd_ali rfl ?_
            intro _
            refine rd_var rfl ?_
            refine ⟨_, _, _, rfl, rfl, rfl, fun t57 => ?_⟩
            intro _
            refine rd_call hec hE ?_
            refine ra_cons ?_
            refine rd_op2 o_ix ?_
            refine rd_ali rfl ?_
            intro _
            refine rd_var rfl ?_
            refine ⟨_, _, _, rfl, rfl, rfl, fun t59 => ?_⟩
            intro _
            refine ra_cons ?_
            refine rd_var rfl ?_
            intro _
            refine ra_nil ?_
            refine ⟨(t59, r51.1), _, rfl, rfl, rfl, fun r58 => ?_⟩
            refine ⟨_, _, _, rfl, rfl, rfl, fun t56 => ?_⟩
            refine ⟨_, _, rfl, fun _ => ?_, fun _ => ⟨rfl, ⟨.inr rfl, ⟨.inr rfl, ⟨.inr rfl, ⟨.inr rfl, ⟨.inr rfl, ⟨.inr rfl, ⟨.inr rfl, ⟨.inr rfl, ⟨.inr rfl, ⟨.inl rfl, ⟨.inr rfl, ⟨.inl rfl, ⟨.inl rfl, ⟨.inl rfl, trivial⟩⟩⟩⟩⟩⟩⟩⟩⟩⟩⟩⟩⟩⟩⟩⟩
            refine rd_var rfl ?_
            exact ⟨_, rfl, rfl, ⟨.inr rfl, ⟨.inr rfl, ⟨.inr rfl, ⟨.inr rfl, ⟨.inr rfl, ⟨.inr rfl, ⟨.inr rfl, ⟨.inr rfl, ⟨.inr rfl, ⟨.inl rfl, ⟨.inr rfl, ⟨.inl rfl, ⟨.inl rfl, ⟨.inl rfl, trivial⟩⟩⟩⟩⟩⟩⟩⟩⟩⟩⟩⟩⟩⟩⟩
          · refine ⟨_, rfl, ?_⟩
            refine ⟨_, rfl, (by show (11 : Nat) < 14; decide), ?_⟩
            refine rs_at [some (.l r51.2), some (.f x_most), some (.f r1.1), some (.f t2), some (.f (.lst r6.1)), some (.l z17.2.2), some (.ll ((z46.2).map VL.T.l)), some (.f d45), some (.f r50.1), none, some (.f r51.1), some (.f (.lst ys54)), none, none] rfl ?_
            refine rs_if ?_
            refine rt_and (Z := Unit) ?_
            refine rt_op2B o_ne ?_
            refine rd_var rfl ?_
            intro _
            refine rd_lst ?_
            refine ra_nil ?_
            refine ⟨[], rfl, (by show (0 : Nat) ≤ 1000; decide), ?_⟩
            refine ⟨_, _, _, rfl, rfl, rfl, fun t61 => ?_⟩
            refine ⟨fun z => [some (.l r51.2), some (.f x_most), some (.f r1.1), some (.f t2), some (.f (.lst r6.1)), some (.l z17.2.2), some (.ll ((z46.2).map VL.T.l)), some (.f d45), some (.f r50.1), none, some (.f r51.1), some (.f (.lst ys54)), none, none], (), _, _, rfl, ⟨.inr rfl, ⟨.inr rfl, ⟨.inr rfl, ⟨.inr rfl, ⟨.inr rfl, ⟨.inr rfl, ⟨.inr rfl, ⟨.inr rfl, ⟨.inr rfl, ⟨.inl rfl, ⟨.inr rfl, ⟨.inr rfl, ⟨.inl rfl, ⟨.inl rfl, trivial⟩⟩⟩⟩⟩⟩⟩⟩⟩⟩⟩⟩⟩⟩, fun _ => ?_, fun p60 => ?_⟩
            · refine rt_op2B o_notIn ?_
              refine rd_op2 o_ix ?_
              refine rd_var rfl ?_
              intro _
              refine rd_var rfl ?_
              refine ⟨_, _, _, rfl, rfl, rfl, fun t63 => ?_⟩
              intro _
              refine rd_lcR [13, 12] (fun i hi => hi) (all2 (hpv _ (by decide)) (hpv _ (by decide))) ?_
              refine ri_el (ls0 := z46.2) rfl (fun _ => ?_)
              refine rd_var rfl ?_
              refine ⟨_, z46.2, _, rfl, rfl, rfl, fun j67 v68 => ?_⟩
              refine ⟨[some (.l r51.2), some (.f x_most), some (.f r1.1), some (.f t2), some (.f (.lst r6.1)), some (.l z17.2.2), some (.ll (((z46.2).map VL.T.l).set j67 (.hole v68))), some (.f d45), some (.f r50.1), none, some (.f r51.1), some (.f (.lst ys54)), none, none], _, _, rfl, ⟨.inr rfl, ⟨.inr rfl, ⟨.inr rfl, ⟨.inr rfl, ⟨.inr rfl, ⟨.inr rfl, ⟨.inr rfl, ⟨.inr rfl, ⟨.inr rfl, ⟨.inl rfl, ⟨.inr rfl, ⟨.inr rfl, ⟨.inl rfl, ⟨.inl rfl, trivial⟩⟩⟩⟩⟩⟩⟩⟩⟩⟩⟩⟩⟩⟩, (by first | exact trivial | rfl | exact ⟨rfl, rfl⟩), (all2 rfl rfl), rfl, fun d64 _ _ => ?_, fun ys65 => ?_⟩
              · refine rg_n2 ⟨_, rfl, fun p69 => ?_⟩
                refine rgs_cons (by show (13 : Nat) < 14; decide) rfl (hpv _ (by decide)) ?_
                refine rgs_cons (by show (12 : Nat) < 14; decide) rfl (hpv _ (by decide)) ?_
                refine rgs_nil ?_
                refine rt_true rfl ?_
                refine ⟨_, .ok none, (if_pos rfl).symm, fun _ => ?_, fun h => by cases h⟩
                refine rd_var rfl ?_
                exact ⟨_, rfl, rfl, ⟨.inr rfl, ⟨.inr rfl, ⟨.inr rfl, ⟨.inr rfl, ⟨.inr rfl, ⟨.inr rfl, ⟨.inr rfl, ⟨.inr rfl, ⟨.inr rfl, ⟨.inl rfl, ⟨.inr rfl, ⟨.inr rfl, ⟨.inl rfl, ⟨.inl rfl, trivial⟩⟩⟩⟩⟩⟩⟩⟩⟩⟩⟩⟩⟩⟩⟩
              · refine ⟨_, _, _, rfl, rfl, rfl, fun t62 => ?_⟩
                exact ⟨_, rfl, ⟨.inr rfl, ⟨.inr rfl, ⟨.inr rfl, ⟨.inr rfl, ⟨.inr rfl, ⟨.inr rfl, ⟨.inr rfl, ⟨.inr rfl, ⟨.inr rfl, ⟨.inl rfl, ⟨.inr rfl, ⟨.inr rfl, ⟨.inl rfl, ⟨.inl rfl, trivial⟩⟩⟩⟩⟩⟩⟩⟩⟩⟩⟩⟩⟩⟩⟩
            · refine ⟨_, _, rfl, fun _ => ?_, fun _ => ?_⟩
              · refine rs_drop ?_
                refine rd_append2 (ls0 := z46.2) rfl (fun _ => ?_)
                refine rd_var rfl ?_
                refine ⟨_, z46.2, _, rfl, rfl, rfl, fun j70 v71 => ?_⟩
                refine rd_tup ?_
                refine ra_cons ?_
                refine rd_op2 o_ix ?_
                refine rd_var rfl ?_
                intro _
                refine rd_var rfl ?_
                refine ⟨_, _, _, rfl, rfl, rfl, fun t73 => ?_⟩
                intro _
                refine ra_cons ?_
                refine rd_op2 o_ix ?_
                refine rd_var rfl ?_
                intro _
                refine rd_call hec hE ?_
                refine ra_cons ?_
                refine rd_ali rfl ?_
                intro _
                refine ra_cons ?_
                refine rd_cb1 o_len ?_
                refine rd_var rfl ?_
                refine ⟨_, _, rfl, rfl, fun t76 => ?_⟩
                intro _
                refine ra_nil ?_
                refine ⟨(r51.2, t76), _, rfl, rfl, rfl, fun r75 => ?_⟩
                refine ⟨_, _, _, rfl, rfl, rfl, fun t74 => ?_⟩
                intro _
                refine ra_nil ?_
                refine ⟨[t73, t74], rfl, (by show (2 : Nat) ≤ 1000; decide), ?_⟩
                refine ⟨_, _, rfl, rfl, rfl, fun t72 => ?_⟩
                exact ⟨_, rfl, ⟨.inr rfl, ⟨.inr rfl, ⟨.inr rfl, ⟨.inr rfl, ⟨.inr rfl, ⟨.inr rfl, ⟨.inr rfl, ⟨.inl rfl, ⟨.inl rfl, ⟨.inl rfl, ⟨.inl rfl, ⟨.inl rfl, ⟨.inl rfl, ⟨.inl rfl, trivial⟩⟩⟩⟩⟩⟩⟩⟩⟩⟩⟩⟩⟩⟩⟩
              · refine rs_next ?_
                exact ⟨_, rfl, ⟨.inr rfl, ⟨.inr rfl, ⟨.inr rfl, ⟨.inr rfl, ⟨.inr rfl, ⟨.inr rfl, ⟨.inr rfl, ⟨.inl rfl, ⟨.inl rfl, ⟨.inl rfl, ⟨.inl rfl, ⟨.inl rfl, ⟨.inl rfl, ⟨.inl rfl, trivial⟩⟩⟩⟩⟩⟩⟩⟩⟩⟩⟩⟩⟩⟩⟩
        · refine rs_at [some (.l z46.1), some (.f x_most), some (.f r1.1), some (.f t2), some (.f (.lst r6.1)), some (.l z17.2.2), some (.ll ((z46.2).map VL.T.l)), none, none, none, none, none, none, none] rfl ?_
          refine rs_seq ?_
          refine rs_forN (Z := ((List (List D)) × (List D))) [7] ?_
          refine ri_range1 ?_
          refine rd_op2 o_mul ?_
          refine rd_op2 o_ix ?_
          refine rd_lst ?_
          refine ra_cons ?_
          refine rd_int ?_
          intro _
          refine ra_cons ?_
          refine rd_int ?_
          intro _
          refine ra_cons ?_
          refine rd_int ?_
          intro _
          refine ra_cons ?_
          refine rd_int ?_
          intro _
          refine ra_nil ?_
          refine ⟨[(.int 0), (.int 0), (.int 1), (.int 2)], rfl, (by show (4 : Nat) ≤ 1000; decide), ?_⟩
          intro _
          refine rd_call hec hE ?_
          refine ra_cons ?_
          refine rd_ali rfl ?_
          intro _
          refine ra_cons ?_
          refine rd_int ?_
          intro _
          refine ra_nil ?_
          refine ⟨(z46.1, (.int 4)), _, rfl, rfl, rfl, fun r82 => ?_⟩
          refine ⟨_, _, _, rfl, rfl, rfl, fun t81 => ?_⟩
          intro _
          refine rd_cb1 o_int ?_
          refine rd_op2B o_lt ?_
          refine rd_lenN (n := (z46.2).length) rfl (by simp) ?_
          intro _
          refine rd_int ?_
          refine ⟨_, _, _, rfl, rfl, rfl, fun t84 => ?_⟩
          refine ⟨_, _, rfl, rfl, fun t83 => ?_⟩
          refine ⟨_, _, _, rfl, rfl, rfl, fun t80 => ?_⟩
          refine ⟨_, _, rfl, rfl, fun ds79 => ?_⟩
          refine ⟨fun z78 => [some (.l z78.2), some (.f x_most), some (.f r1.1), some (.f t2), some (.f (.lst r6.1)), some (.l z17.2.2), some (.ll ((z78.1).map VL.T.l)), none, none, none, none, none, none, none], _, _, _, rfl, ⟨.inr rfl, ⟨.inr rfl, ⟨.inr rfl, ⟨.inr rfl, ⟨.inr rfl, ⟨.inr rfl, ⟨.inr rfl, ⟨.inl rfl, ⟨.inl rfl, ⟨.inl rfl, ⟨.inl rfl, ⟨.inl rfl, ⟨.inl rfl, ⟨.inl rfl, trivial⟩⟩⟩⟩⟩⟩⟩⟩⟩⟩⟩⟩⟩⟩, fun _ => (by first | exact trivial | rfl | exact ⟨rfl, rfl⟩), fun z78 d77 => ?_, fun z78 => ?_⟩
          · refine rg_name (by show (7 : Nat) < 14; decide) rfl (hpv _ (by decide)) ?_
            refine rs_at [some (.l z78.2), some (.f x_most), some (.f r1.1), some (.f t2), some (.f (.lst r6.1)), some (.l z17.2.2), some (.ll ((z78.1).map VL.T.l)), some (.f d77), none, none, none, none, none, none] rfl ?_
            refine rs_drop ?_
            refine rd_appendO ⟨_, rfl⟩ (fun _ => ?_)
            refine rd_lst ?_
            refine ra_cons ?_
            refine rd_tup ?_
            refine ra_cons ?_
            refine rd_op2 o_ix ?_
            refine rd_var rfl ?_
            intro _
            refine rd_call hec hE ?_
            refine ra_cons ?_
            refine rd_ali rfl ?_
            intro _
            refine ra_cons ?_
            refine rd_cb1 o_len ?_
            refine rd_var rfl ?_
            refine ⟨_, _, rfl, rfl, fun t88 => ?_⟩
            intro _
            refine ra_nil ?_
            refine ⟨(z78.2, t88), _, rfl, rfl, rfl, fun r87 => ?_⟩
            refine ⟨_, _, _, rfl, rfl, rfl, fun t86 => ?_⟩
            intro _
            refine ra_cons ?_
            refine rd_call hec hE ?_
            refine ra_cons ?_
            refine rd_ali rfl ?_
            intro _
            refine ra_cons ?_
            refine rd_op2 o_add ?_
            refine rd_lenN (n := (z78.1).length) rfl (by simp) ?_
            intro _
            refine rd_int ?_
            refine ⟨_, _, _, rfl, rfl, rfl, fun t90 => ?_⟩
            intro _
            refine ra_nil ?_
            refine ⟨(r87.2, t90), _, rfl, rfl, rfl, fun r89 => ?_⟩
            intro _
            refine ra_nil ?_
            refine ⟨[t86, r89.1], rfl, (by show (2 : Nat) ≤ 1000; decide), ?_⟩
            intro _
            refine ra_nil ?_
            refine ⟨[(.tup [t86, r89.1])], rfl, (by show (1 : Nat) ≤ 1000; decide), ?_⟩
            refine ⟨_, _, _, rfl, rfl, rfl, ?_⟩
            rw [mapTl]
            exact ⟨_, rfl, ⟨.inr rfl, ⟨.inr rfl, ⟨.inr rfl, ⟨.inr rfl, ⟨.inr rfl, ⟨.inr rfl, ⟨.inr rfl, ⟨.inl rfl, ⟨.inl rfl, ⟨.inl rfl, ⟨.inl rfl, ⟨.inl rfl, ⟨.inl rfl, ⟨.inl rfl, trivial⟩⟩⟩⟩⟩⟩⟩⟩⟩⟩⟩⟩⟩⟩⟩
          · refine rs_at [some (.l z78.2), some (.f x_most), some (.f r1.1), some (.f t2), some (.f (.lst r6.1)), some (.l z17.2.2), some (.ll ((z78.1).map VL.T.l)), none, none, none, none, none, none, none] rfl ?_
            refine rs_ret ?_
            refine rd_tupO ?_
            refine ra_cons ?_
            refine rd_fz ?_
            refine rd_slL ?_
            refine rd_var rfl ?_
            intro _
            refine ro_none ?_
            refine ro_some ?_
            refine rd_var rfl ?_
            refine ⟨_, _, rfl, rfl, fun t92 => ?_⟩
            refine ⟨_, _, rfl, rfl, fun t91 => ?_⟩
            refine ⟨_, rfl, ?_⟩
            intro _
            refine ra_cons ?_
            refine rd_fz ?_
            refine rd_slL ?_
            refine rd_var rfl ?_
            intro _
            refine ro_some ?_
            refine rd_var rfl ?_
            refine ⟨_, _, rfl, rfl, fun t94 => ?_⟩
            refine ro_none ?_
            refine ⟨_, _, rfl, rfl, fun t93 => ?_⟩
            refine ⟨_, rfl, ?_⟩
            intro _
            refine ra_cons ?_
            refine rd_op2 o_ix ?_
            refine rd_ali rfl ?_
            intro _
            refine rd_int ?_
            refine ⟨_, _, _, rfl, rfl, rfl, fun t95 => ?_⟩
            intro _
            refine ra_cons ?_
            refine rd_mv rfl ?_
            intro _
            refine ra_nil ?_
            refine ⟨([.f (.lst t91), .f (.lst t93), .f t95, .ll ((z78.1).map VL.T.l)] : List VL.T), rfl, (by show (4 : Nat) ≤ 1000; decide), ?_⟩
            refine ⟨_, rfl, ?_⟩
            exact ⟨_, rfl, (by show (_ : VL.T) = .tt [.f (.lst t91), .f (.lst t93), .f t95, optLL (llD z78.1)]; rw [optLL_ll]), ⟨rfl, by decide, trivial⟩⟩
theorem ok__law_led_elsewhere (T : Tx K mg) : FnOk P w K mg base CX0 2 T.a__law_led_elsewhere T.d__law_led_elsewhere ["store", "nodes"] (spOf (A := (List D) × (List (List D))) (R := D × (List D) × (List (List D))) EC.ec (fun a => [.l a.1, .ll ((a.2).map VL.T.l)]) (fun a => m__law_led_elsewhere a.1 a.2) (fun r => .f r.1) (fun r => [some (.l r.2.1), some (.ll ((r.2.2).map VL.T.l))])) := by
  refine T.F__law_led_elsewhere.ok sc__law_led_elsewhere (fun vs H Q E h => ?_) (fun cdv A outer s H vs Q E hr h => ?_)
  · obtain ⟨a, G, w, _, _, hl, _⟩ := h; exact hl
  · refine ⟨_, (pss_cons (ps_set (i := 2) sc__law_led_elsewhere.nd rfl (by first | exact .inl rfl | exact .inr rfl) (pe_call (ok__law_take T) (hr.mono (by decide)) (by rfl) T.g__law_take T.F__law_take.kp T.b__law_take .nil (show Passes CX0 _ E from pass0) (pa_cons (pv 0) (pa_cons (pe_callB (call_lenK (Kf := K) (by rfl)) (by rfl) T.n_len PySem.boot_len (pa_cons (pv 1) pa_nil)) pa_nil)))) (pss_one (ps_if (pw_and (pt_cmpR (op_neM (hu_64 hr)) (pe_ix (ix_anyK (Kf := K) (by rfl)) (pv 1) (pv 2) (fun _ _ => rfl)) (pe_lst pa_nil) (nomark _)) (pw_and1 (pt_cmpR (op_eqM (hu_64 hr)) (pe_call (ok__law_take T) (hr.mono (by decide)) (by rfl) T.g__law_take T.F__law_take.kp T.b__law_take .nil (show Passes CX0 _ E from pass0) (pa_cons (pv 0) (pa_cons pe_int pa_nil))) pe_int (nomark _)))).pt (pss_cons (ps_set (i := 3) sc__law_led_elsewhere.nd rfl (by first | exact .inl rfl | exact .inr rfl) (pe_call (ok__law_take T) (hr.mono (by decide)) (by rfl) T.g__law_take T.F__law_take.kp T.b__law_take .nil (show Passes CX0 _ E from pass0) (pa_cons (pv 0) (pa_cons (pe_callB (call_lenK (Kf := K) (by rfl)) (by rfl) T.n_len PySem.boot_len (pa_cons (pe_ix (ix_anyK (Kf := K) (by rfl)) (pv 1) (pv 2) (fun _ _ => rfl)) pa_nil)) pa_nil)))) (pss_cons (ps_asg (pe_ix (ix_anyK (Kf := K) (by rfl)) (pe_ix (ix_anyK (Kf := K) (by rfl)) (pv 1) (pv 2) (fun _ _ => rfl)) (pv 3) (fun _ _ => rfl)) (pg_tupK (Kf := K) (n := 2) (by rfl) rfl (pgs_cons (pg_name (i := 4) sc__law_led_elsewhere.nd rfl (by first | exact .inl rfl | exact .inr rfl)) (pgs_cons (pg_name (i := 5) sc__law_led_elsewhere.nd rfl (by first | exact .inl rfl | exact .inr rfl)) pgs_nil)))) (pss_one (ps_asg (pe_tup (pa_cons (pv 4) (pa_cons (pe_call (ok__law_take T) (hr.mono (by decide)) (by rfl) T.g__law_take T.F__law_take.kp T.b__law_take .nil (show Passes CX0 _ E from pass0) (pa_cons (pv 0) (pa_cons (pe_callB (call_lenK (Kf := K) (by rfl)) (by rfl) T.n_len PySem.boot_len (pa_cons (pv 1) pa_nil)) pa_nil))) pa_nil))) (pg_sub (pe_ix (ix_anyK (Kf := K) (by rfl)) (pv 1) (pv 2) (fun _ _ => rfl)) (pv 3) set_list))))) pss_nil))), ?_⟩
    refine fn_body (K := K) [0, 1] (fun _ => by show (2 : Nat) ≤ 6; decide) (fun _ => by show ∀ k ∈ ([0, 1] : List Nat), k < 2; decide) h (fun F a hec hE hK hpv => ?_)
    obtain ⟨x_store, x_nodes⟩ := a
    show RS F [] [some (.l x_store), some (.ll ((x_nodes).map VL.T.l)), none, none, none, none] (m__law_led_elsewhere x_store x_nodes) _ _ _
    unfold m__law_led_elsewhere
    refine rs_seq ?_
    refine rs_set ?_ rfl (hpv _ (by decide))
    refine rd_call hec hE ?_
    refine ra_cons ?_
    refine rd_ali rfl ?_
    intro _
    refine ra_cons ?_
    refine rd_lenN (n := (x_nodes).length) rfl (by simp) ?_
    intro _
    refine ra_nil ?_
    refine ⟨(x_store, (.int ((x_nodes).length : Nat))), _, rfl, rfl, rfl, fun r1 => ?_⟩
    refine ⟨_, rfl, (by show (2 : Nat) < 6; decide), ?_⟩
    refine rs_at [some (.l r1.2), some (.ll ((x_nodes).map VL.T.l)), some (.f r1.1), none, none, none] rfl ?_
    refine rs_if ?_
    refine rt_and (Z := (List D)) ?_
    refine rt_llB o_ne (ls0 := x_nodes) rfl (fun _ => ?_)
    refine rd_var rfl ?_
    refine ⟨_, x_nodes, _, rfl, rfl, rfl, fun j3 v4 => ?_⟩
    refine rd_lst ?_
    refine ra_nil ?_
    refine ⟨[], rfl, (by show (0 : Nat) ≤ 1000; decide), ?_⟩
    refine ⟨_, _, rfl, rfl, rfl, fun t5 => ?_⟩
    refine ⟨fun z => [some (.l z), some (.ll ((x_nodes).map VL.T.l)), some (.f r1.1), none, none, none], r1.2, _, _, rfl, ⟨.inr rfl, ⟨.inr rfl, ⟨.inr rfl, ⟨.inl rfl, ⟨.inl rfl, ⟨.inl rfl, trivial⟩⟩⟩⟩⟩⟩, fun _ => ?_, fun p2 => ?_⟩
    · refine rt_op2B o_eq ?_
      refine rd_call hec hE ?_
      refine ra_cons ?_
      refine rd_ali rfl ?_
      intro _
      refine ra_cons ?_
      refine rd_int ?_
      intro _
      refine ra_nil ?_
      refine ⟨(r1.2, (.int 2)), _, rfl, rfl, rfl, fun r7 => ?_⟩
      intro _
      refine rd_int ?_
      refine ⟨_, _, _, rfl, rfl, rfl, fun t6 => ?_⟩
      exact ⟨_, rfl, ⟨.inr rfl, ⟨.inr rfl, ⟨.inr rfl, ⟨.inl rfl, ⟨.inl rfl, ⟨.inl rfl, trivial⟩⟩⟩⟩⟩⟩⟩
    · refine ⟨_, _, rfl, fun _ => ?_, fun _ => ?_⟩
      · refine rs_seq ?_
        refine rs_set ?_ rfl (hpv _ (by decide))
        refine rd_call hec hE ?_
        refine ra_cons ?_
        refine rd_ali rfl ?_
        intro _
        refine ra_cons ?_
        refine rd_llUn o_len lenD_fl (ls0 := x_nodes) rfl (fun _ => ?_)
        refine rd_var rfl ?_
        refine ⟨_, x_nodes, _, rfl, rfl, rfl, fun j9 => ⟨_, rfl, fun t10 => ?_⟩⟩
        intro _
        refine ra_nil ?_
        refine ⟨(p2.2, t10), _, rfl, rfl, rfl, fun r8 => ?_⟩
        refine ⟨_, rfl, (by show (3 : Nat) < 6; decide), ?_⟩
        refine rs_at [some (.l r8.2), some (.ll ((x_nodes).map VL.T.l)), some (.f r1.1), some (.f r8.1), none, none] rfl ?_
        refine rs_seq ?_
        refine rs_asgG [4, 5] ?_
        refine rd_llix (ls0 := x_nodes) rfl (fun _ => ?_)
        refine rd_var rfl ?_
        refine ⟨_, x_nodes, _, rfl, rfl, rfl, fun j11 v12 => ?_⟩
        refine rd_var rfl ?_
        refine ⟨_, _, rfl, rfl, rfl, fun t13 => ?_⟩
        refine ⟨_, rfl, ?_⟩
        refine rg_n2 ⟨_, rfl, fun p14 => ?_⟩
        refine rgs_cons (by show (4 : Nat) < 6; decide) rfl (hpv _ (by decide)) ?_
        refine rgs_cons (by show (5 : Nat) < 6; decide) rfl (hpv _ (by decide)) ?_
        refine rgs_nil ?_
        refine rs_at [some (.l r8.2), some (.ll ((x_nodes).map VL.T.l)), some (.f r1.1), some (.f r8.1), some (.f p14.1), some (.f p14.2)] rfl ?_
        refine rs_llset ?_
        refine rd_tup ?_
        refine ra_cons ?_
        refine rd_var rfl ?_
        intro _
        refine ra_cons ?_
        refine rd_call hec hE ?_
        refine ra_cons ?_
        refine rd_ali rfl ?_
        intro _
        refine ra_cons ?_
        refine rd_lenN (n := (x_nodes).length) rfl (by simp) ?_
        intro _
        refine ra_nil ?_
        refine ⟨(r8.2, (.int ((x_nodes).length : Nat))), _, rfl, rfl, rfl, fun r18 => ?_⟩
        intro _
        refine ra_nil ?_
        refine ⟨[p14.1, r18.1], rfl, (by show (2 : Nat) ≤ 1000; decide), ?_⟩
        refine ⟨_, x_nodes, rfl, rfl, fun _ _ => ?_⟩
        refine rd_var rfl ?_
        refine ⟨_, x_nodes, _, rfl, rfl, rfl, fun j15 v16 => ?_⟩
        refine rd_var rfl ?_
        refine ⟨_, _, rfl, rfl, rfl, fun t17 => ?_⟩
        exact ⟨_, rfl, rfl, ⟨rfl, by decide, ⟨rfl, by decide, trivial⟩⟩⟩
      · refine rs_next ?_
        exact ⟨_, rfl, rfl, ⟨rfl, by decide, ⟨rfl, by decide, trivial⟩⟩⟩
theorem ok__law_sheet_copy (T : Tx K mg) : FnOk P w K mg base CX0 1 T.a__law_sheet_copy T.d__law_sheet_copy ["sheet"] (spOf (A := D) (R := D) EC.ec (fun a => [.f a]) (fun a => m__law_sheet_copy a) (fun r => .f r) (fun r => [none])) := by
  refine T.F__law_sheet_copy.ok sc__law_sheet_copy (fun vs H Q E h => ?_) (fun cdv A outer s H vs Q E hr h => ?_)
  · obtain ⟨a, G, w, _, _, hl, _⟩ := h; exact hl
  · refine ⟨_, (pss_one (ps_ret (pe_tup (pa_cons (pe_callTy (call_listK (Kf := K) (by rfl)) (by rfl) T.n_list PyProof.Rows.boot_list (pa_cons (pe_ix (ix_anyK (Kf := K) (by rfl)) (pv 0) pe_int (fun _ _ => rfl)) pa_nil)) (pa_cons (pe_callTy (call_listK (Kf := K) (by rfl)) (by rfl) T.n_list PyProof.Rows.boot_list (pa_cons (pe_ix (ix_anyK (Kf := K) (by rfl)) (pv 0) pe_int (fun _ _ => rfl)) pa_nil)) (pa_cons (pe_ix (ix_anyK (Kf := K) (by rfl)) (pv 0) pe_int (fun _ _ => rfl)) (pa_cons (pe_lc (own := [("node", 1)]) rfl (by exact sc__law_sheet_copy.nd) (pi_listK (Kf := K) (by rfl) (pe_ix (ix_anyK (Kf := K) (by rfl)) (pv 0) pe_int (fun _ _ => rfl))) blk__law_sheet_copy_0 (fun _ _ _ _ _ => (pg_name (i := 1) sc__law_sheet_copy.nd rfl (by first | exact .inl rfl | exact .inr rfl))) (fun _ _ _ _ _ => pts_nil) (fun _ _ _ _ _ => (pe_callTy (call_listK (Kf := K) (by rfl)) (by rfl) T.n_list PyProof.Rows.boot_list (pa_cons (pv 1) pa_nil)))) pa_nil))))))), ?_⟩
    refine fn_body (K := K) [] (fun _ => by show (1 : Nat) ≤ 2; decide) (fun _ => by show ∀ k ∈ ([] : List Nat), k < 1; decide) h (fun F x_sheet hec hE hK hpv => ?_)
    skip
    show RS F [] [some (.f x_sheet), none] (m__law_sheet_copy x_sheet) _ _ _
    unfold m__law_sheet_copy
    refine rs_ret ?_
    refine rd_tup ?_
    refine ra_cons ?_
    refine rd_fz ?_
    refine rd_cb1L o_list ?_
    refine rd_op2 o_ix ?_
    refine rd_var rfl ?_
    intro _
    refine rd_int ?_
    refine ⟨_, _, _, rfl, rfl, rfl, fun t2 => ?_⟩
    refine ⟨_, _, rfl, rfl, fun t1 => ?_⟩
    refine ⟨_, rfl, ?_⟩
    intro _
    refine ra_cons ?_
    refine rd_fz ?_
    refine rd_cb1L o_list ?_
    refine rd_op2 o_ix ?_
    refine rd_var rfl ?_
    intro _
    refine rd_int ?_
    refine ⟨_, _, _, rfl, rfl, rfl, fun t4 => ?_⟩
    refine ⟨_, _, rfl, rfl, fun t3 => ?_⟩
    refine ⟨_, rfl, ?_⟩
    intro _
    refine ra_cons ?_
    refine rd_op2 o_ix ?_
    refine rd_var rfl ?_
    intro _
    refine rd_int ?_
    refine ⟨_, _, _, rfl, rfl, rfl, fun t5 => ?_⟩
    intro _
    refine ra_cons ?_
    refine rd_fz ?_
    refine rd_lcR [1] (fun i hi => hi) (all1 (hpv _ (by decide))) ?_
    refine ri_lst ?_
    refine rd_op2 o_ix ?_
    refine rd_var rfl ?_
    intro _
    refine rd_int ?_
    refine ⟨_, _, _, rfl, rfl, rfl, fun t9 => ?_⟩
    refine ⟨_, _, rfl, rfl, fun ds8 _ => ?_⟩
    refine ⟨[some (.f x_sheet), none], _, _, rfl, ⟨.inr rfl, ⟨.inl rfl, trivial⟩⟩, (by first | exact trivial | rfl | exact ⟨rfl, rfl⟩), (all1 rfl), rfl, fun d6 _ _ => ?_, fun ys7 => ?_⟩
    · refine rg_name (by show (1 : Nat) < 2; decide) rfl (hpv _ (by decide)) ?_
      refine rt_true rfl ?_
      refine ⟨_, .ok none, (if_pos rfl).symm, fun _ => ?_, fun h => by cases h⟩
      refine rd_fz ?_
      refine rd_cb1L o_list ?_
      refine rd_var rfl ?_
      refine ⟨_, _, rfl, rfl, fun t10 => ?_⟩
      refine ⟨_, rfl, ?_⟩
      exact ⟨_, rfl, rfl, ⟨.inr rfl, ⟨.inl rfl, trivial⟩⟩⟩
    · refine ⟨_, rfl, ?_⟩
      intro _
      refine ra_nil ?_
      refine ⟨[(.lst t1), (.lst t3), t5, (.lst ys7)], rfl, (by show (4 : Nat) ≤ 1000; decide), ?_⟩
      refine ⟨_, rfl, ?_⟩
      exact ⟨_, rfl, rfl, trivial⟩
theorem ok__law_cell (T : Tx K mg) : FnOk P w K mg base CX0 1 T.a__law_cell T.d__law_cell ["script", "k"] (spOf (A := D × D) (R := D) EC.ec (fun a => [.f a.1, .f a.2]) (fun a => m__law_cell a.1 a.2) (fun r => .f r) (fun r => [none, none])) := by
  refine T.F__law_cell.ok sc__law_cell (fun vs H Q E h => ?_) (fun cdv A outer s H vs Q E hr h => ?_)
  · obtain ⟨a, G, w, _, _, hl, _⟩ := h; exact hl
  · refine ⟨_, (pss_cons (ps_if (pt_cmpR op_ltA (pv 1) (pe_callB (call_lenK (Kf := K) (by rfl)) (by rfl) T.n_len PySem.boot_len (pa_cons (pv 0) pa_nil)) (nomark _)) (pss_one (ps_ret (pe_ix (ix_anyK (Kf := K) (by rfl)) (pv 0) (pv 1) (fun _ _ => rfl)))) pss_nil) (pss_one (ps_ret (pe_op op_addA (pe_op op_addA (pe_op op_mul (pe_op op_mul pe_int (pv 1)) (pv 1)) (pe_op op_mul pe_int (pv 1))) pe_int)))), ?_⟩
    refine fn_body (K := K) [] (fun _ => by show (2 : Nat) ≤ 2; decide) (fun _ => by show ∀ k ∈ ([] : List Nat), k < 2; decide) h (fun F a hec hE hK hpv => ?_)
    obtain ⟨x_script, x_k⟩ := a
    show RS F [] [some (.f x_script), some (.f x_k)] (m__law_cell x_script x_k) _ _ _
    unfold m__law_cell
    refine rs_seq ?_
    refine rs_if ?_
    refine rt_op2B o_lt ?_
    refine rd_var rfl ?_
    intro _
    refine rd_cb1 o_len ?_
    refine rd_var rfl ?_
    refine ⟨_, _, rfl, rfl, fun t2 => ?_⟩
    refine ⟨_, _, _, rfl, rfl, rfl, fun t1 => ?_⟩
    refine ⟨_, _, rfl, fun _ => ?_, fun _ => ?_⟩
    · refine rs_ret ?_
      refine rd_op2 o_ix ?_
      refine rd_var rfl ?_
      intro _
      refine rd_var rfl ?_
      refine ⟨_, _, _, rfl, rfl, rfl, fun t3 => ?_⟩
      refine ⟨_, rfl, ?_⟩
      exact ⟨_, rfl, rfl, trivial⟩
    · refine rs_next ?_
      refine rs_at [some (.f x_script), some (.f x_k)] rfl ?_
      refine rs_ret ?_
      refine rd_op2 o_add ?_
      refine rd_op2 o_add ?_
      refine rd_op2 o_mul ?_
      refine rd_op2 o_mul ?_
      refine rd_int ?_
      intro _
      refine rd_var rfl ?_
      refine ⟨_, _, _, rfl, rfl, rfl, fun t7 => ?_⟩
      intro _
      refine rd_var rfl ?_
      refine ⟨_, _, _, rfl, rfl, rfl, fun t6 => ?_⟩
      intro _
      refine rd_op2 o_mul ?_
      refine rd_int ?_
      intro _
      refine rd_var rfl ?_
      refine ⟨_, _, _, rfl, rfl, rfl, fun t8 => ?_⟩
      refine ⟨_, _, _, rfl, rfl, rfl, fun t5 => ?_⟩
      intro _
      refine rd_int ?_
      refine ⟨_, _, _, rfl, rfl, rfl, fun t4 => ?_⟩
      refine ⟨_, rfl, ?_⟩
      exact ⟨_, rfl, rfl, trivial⟩
theorem ok_behind_turn (T : Tx K mg) : FnOk P w K mg base CX0 1 T.a_behind_turn T.d_behind_turn ["names", "signs", "name"] (spOf (A := D × D × D) (R := D) EC.ec (fun a => [.f a.1, .f a.2.1, .f a.2.2]) (fun a => m_behind_turn a.1 a.2.1 a.2.2) (fun r => .f r) (fun r => [none, none, none])) := by
  refine T.F_behind_turn.ok sc_behind_turn (fun vs H Q E h => ?_) (fun cdv A outer s H vs Q E hr h => ?_)
  · obtain ⟨a, G, w, _, _, hl, _⟩ := h; exact hl
  · refine ⟨_, (pss_cons (ps_set (i := 3) sc_behind_turn.nd rfl (by first | exact .inl rfl | exact .inr rfl) (pe_bmK (Kf := K) (by rfl) PySem.F.plainAttrs_list PySem.F.slot_list_index PySem.F.type_list_index (mt_indexK (Kf := K) (by rfl)) (pv 0) (pa_cons (pv 2) pa_nil))) (pss_one (ps_ret (pe_op op_addA (pe_op op_addA (pe_slice sl_str (pv 1) po_none (po_some (pv 3))) (pe_callTy call_str_int (by rfl) T.n_str PyProof.Rows.boot_str (pa_cons (pe_op op_sub pe_int (pe_callTy call_intA (by rfl) T.n_int PyProof.Rows.boot_int (pa_cons (pe_ix (ix_anyK (Kf := K) (by rfl)) (pv 1) (pv 3) (fun _ _ => rfl)) pa_nil))) pa_nil))) (pe_slice sl_str (pv 1) (po_some (pe_op op_addA (pv 3) pe_int)) po_none))))), ?_⟩
    refine fn_body (K := K) [] (fun _ => by show (3 : Nat) ≤ 4; decide) (fun _ => by show ∀ k ∈ ([] : List Nat), k < 3; decide) h (fun F a hec hE hK hpv => ?_)
    obtain ⟨x_names, x_signs, x_name⟩ := a
    show RS F [] [some (.f x_names), some (.f x_signs), some (.f x_name), none] (m_behind_turn x_names x_signs x_name) _ _ _
    unfold m_behind_turn
    refine rs_seq ?_
    refine rs_set ?_ rfl (hpv _ (by decide))
    refine rd_idx ?_
    refine rd_var rfl ?_
    refine ⟨_, _, rfl, rfl, fun t2 _ => ?_⟩
    refine rd_var rfl ?_
    refine ⟨_, _, _, rfl, rfl, rfl, fun t1 => ?_⟩
    refine ⟨_, rfl, (by show (3 : Nat) < 4; decide), ?_⟩
    refine rs_at [some (.f x_names), some (.f x_signs), some (.f x_name), some (.f t1)] rfl ?_
    refine rs_ret ?_
    refine rd_op2 o_add ?_
    refine rd_op2 o_add ?_
    refine rd_slS ?_
    refine rd_var rfl ?_
    intro _
    refine ro_none ?_
    refine ro_some ?_
    refine rd_var rfl ?_
    refine ⟨_, _, rfl, rfl, fun t6 => ?_⟩
    refine ⟨_, _, rfl, rfl, fun t5 => ?_⟩
    intro _
    refine rd_cb1 o_strI ?_
    refine rd_op2 o_sub ?_
    refine rd_int ?_
    intro _
    refine rd_cb1 o_int ?_
    refine rd_op2 o_ix ?_
    refine rd_var rfl ?_
    intro _
    refine rd_var rfl ?_
    refine ⟨_, _, _, rfl, rfl, rfl, fun t10 => ?_⟩
    refine ⟨_, _, rfl, rfl, fun t9 => ?_⟩
    refine ⟨_, _, _, rfl, rfl, rfl, fun t8 => ?_⟩
    refine ⟨_, _, rfl, rfl, fun t7 => ?_⟩
    refine ⟨_, _, _, rfl, rfl, rfl, fun t4 => ?_⟩
    intro _
    refine rd_slS ?_
    refine rd_var rfl ?_
    intro _
    refine ro_some ?_
    refine rd_op2 o_add ?_
    refine rd_var rfl ?_
    intro _
    refine rd_int ?_
    refine ⟨_, _, _, rfl, rfl, rfl, fun t13 => ?_⟩
    refine ⟨_, _, rfl, rfl, fun t12 => ?_⟩
    refine ro_none ?_
    refine ⟨_, _, rfl, rfl, fun t11 => ?_⟩
    refine ⟨_, _, _, rfl, rfl, rfl, fun t3 => ?_⟩
    refine ⟨_, rfl, ?_⟩
    exact ⟨_, rfl, rfl, trivial⟩
theorem ok_rows_of (T : Tx K mg) : FnOk P w K mg base CX0 2 T.a_rows_of T.d_rows_of ["names", "first", "nodes"] (spOf (A := D × D × D) (R := D) EC.ec (fun a => [.f a.1, .f a.2.1, .f a.2.2]) (fun a => m_rows_of a.1 a.2.1 a.2.2) (fun r => .f r) (fun r => [none, none, none])) := by
  refine T.F_rows_of.ok sc_rows_of (fun vs H Q E h => ?_) (fun cdv A outer s H vs Q E hr h => ?_)
  · obtain ⟨a, G, w, _, _, hl, _⟩ := h; exact hl
  · refine ⟨_, (pss_cons (ps_set (i := 3) sc_rows_of.nd rfl (by first | exact .inl rfl | exact .inr rfl) (pe_disp (pps_cons pe_int (pv 1) pps_nil) (by rfl) (by rfl) (fun z => by cases z) (by decide))) (pss_cons (ps_set (i := 4) sc_rows_of.nd rfl (by first | exact .inl rfl | exact .inr rfl) (pe_lst (pa_cons pe_int pa_nil))) (pss_cons (ps_while PassesOwn.never (pt_cmpR (op_neM (hu_64 hr)) (pv 4) (pe_lst pa_nil) (nomark _)) (pss_cons (ps_set (i := 5) sc_rows_of.nd rfl (by first | exact .inl rfl | exact .inr rfl) (pe_bm0K (Kf := K) (by rfl) PySem.F.plainAttrs_list PySem.F.slot_list_pop PySem.F.type_list_pop mt_pop (pv 4))) (pss_one (ps_for PassesOwn.never rfl (pi_listK (Kf := K) (by rfl) (pe_ix (ix_anyK (Kf := K) (by rfl)) (pv 2) (pv 5) (fun _ _ => rfl))) (pg_tupK (Kf := K) (n := 2) (by rfl) rfl (pgs_cons (pg_name (i := 6) sc_rows_of.nd rfl (by first | exact .inl rfl | exact .inr rfl)) (pgs_cons (pg_name (i := 7) sc_rows_of.nd rfl (by first | exact .inl rfl | exact .inr rfl)) pgs_nil))) (pss_cons (ps_set (i := 8) sc_rows_of.nd rfl (by first | exact .inl rfl | exact .inr rfl) (pe_call (ok_behind_turn T) (hr.mono (by decide)) (by rfl) T.g_behind_turn T.F_behind_turn.kp T.b_behind_turn .nil (show Passes CX0 _ E from pass0) (pa_cons (pv 0) (pa_cons (pe_dget (hu_1 hr) (pv 3) (pv 5) (fun _ _ => rfl)) (pa_cons (pv 6) pa_nil))))) (pss_one (ps_if (pt_cmp (pc_dnotin (hu_1 hr) (pv 7) (pv 3))) (pss_cons (ps_dput (hu_1 hr) (pv 3) (pv 7) (pv 8) (by rfl)) (pss_one (ps_expr (pe_bmK (Kf := K) (by rfl) PySem.F.plainAttrs_list PySem.F.slot_list_append PySem.F.type_list_append mt_append (pv 4) (pa_cons (pv 7) pa_nil))))) (pss_one (ps_if (pt_cmpR (op_neM (hu_64 hr)) (pe_dget (hu_1 hr) (pv 3) (pv 7) (fun _ _ => rfl)) (pv 8) (nomark _)) (pss_one (ps_ret pe_non)) pss_nil))))))))) (pss_one (ps_ret (pv 3)))))), ?_⟩
    refine fn_body (K := K) [] (fun _ => by show (3 : Nat) ≤ 9; decide) (fun _ => by show ∀ k ∈ ([] : List Nat), k < 3; decide) h (fun F a hec hE hK hpv => ?_)
    obtain ⟨x_names, x_first, x_nodes⟩ := a
    show RS F [] [some (.f x_names), some (.f x_first), some (.f x_nodes), none, none, none, none, none, none] (m_rows_of x_names x_first x_nodes) _ _ _
    unfold m_rows_of
    refine rs_seq ?_
    refine rs_set ?_ rfl (hpv _ (by decide))
    refine rd_disp1 (fun _ => ?_)
    refine rd_int ?_
    intro _
    refine rd_var rfl ?_
    refine ⟨_, _, _, rfl, rfl, rfl, ?_⟩
    refine ⟨_, rfl, (by show (3 : Nat) < 9; decide), ?_⟩
    refine rs_at [some (.f x_names), some (.f x_first), some (.f x_nodes), some (.dc false [((.int 0), x_first)]), none, none, none, none, none] rfl ?_
    refine rs_seq ?_
    refine rs_set ?_ rfl (hpv _ (by decide))
    refine rd_lst ?_
    refine ra_cons ?_
    refine rd_int ?_
    intro _
    refine ra_nil ?_
    refine ⟨[(.int 0)], rfl, (by show (1 : Nat) ≤ 1000; decide), ?_⟩
    refine ⟨_, rfl, (by show (4 : Nat) < 9; decide), ?_⟩
    refine rs_at [some (.f x_names), some (.f x_first), some (.f x_nodes), some (.dc false [((.int 0), x_first)]), some (.l [(.int 0)]), none, none, none, none] rfl ?_
    refine rs_seq ?_
    refine rs_while FU (fun z1 => [some (.f x_names), some (.f x_first), some (.f x_nodes), some (.dc false z1.2), some (.l z1.1), none, none, none, none]) _ _ _ _ rfl ⟨.inr rfl, ⟨.inr rfl, ⟨.inr rfl, ⟨.inr rfl, ⟨.inr rfl, ⟨.inl rfl, ⟨.inl rfl, ⟨.inl rfl, ⟨.inl rfl, trivial⟩⟩⟩⟩⟩⟩⟩⟩⟩ (fun z1 => ?_) (fun z1 => ?_) (fun z1 => ?_)
    · refine rt_op2B o_ne ?_
      refine rd_ali rfl ?_
      intro _
      refine rd_lst ?_
      refine ra_nil ?_
      refine ⟨[], rfl, (by show (0 : Nat) ≤ 1000; decide), ?_⟩
      refine ⟨_, _, _, rfl, rfl, rfl, fun t2 => ?_⟩
      exact ⟨rfl, ⟨.inr rfl, ⟨.inr rfl, ⟨.inr rfl, ⟨.inr rfl, ⟨.inr rfl, ⟨.inl rfl, ⟨.inl rfl, ⟨.inl rfl, ⟨.inl rfl, trivial⟩⟩⟩⟩⟩⟩⟩⟩⟩⟩
    · refine rs_seq ?_
      refine rs_set ?_ rfl (hpv _ (by decide))
      refine rd_pop ?_
      refine rd_ali rfl ?_
      refine ⟨4, _, _, rfl, rfl, rfl, fun t3 => ?_⟩
      refine ⟨_, rfl, (by show (5 : Nat) < 9; decide), ?_⟩
      refine rs_at [some (.f x_names), some (.f x_first), some (.f x_nodes), some (.dc false z1.2), some (.l t3.2), some (.f t3.1), none, none, none] rfl ?_
      refine rs_for (Z := ((List (D × D)) × (List D))) (R' := D) [6, 7] ?_
      refine ri_lst ?_
      refine rd_op2 o_ix ?_
      refine rd_var rfl ?_
      intro _
      refine rd_var rfl ?_
      refine ⟨_, _, _, rfl, rfl, rfl, fun t7 => ?_⟩
      refine ⟨_, _, rfl, rfl, fun ds6 _ => ?_⟩
      refine ⟨fun z5 => [some (.f x_names), some (.f x_first), some (.f x_nodes), some (.dc false z5.1), some (.l z5.2), some (.f t3.1), none, none, none], _, _, _, rfl, ⟨.inr rfl, ⟨.inr rfl, ⟨.inr rfl, ⟨.inr rfl, ⟨.inr rfl, ⟨.inr rfl, ⟨.inl rfl, ⟨.inl rfl, ⟨.inl rfl, trivial⟩⟩⟩⟩⟩⟩⟩⟩⟩, fun _ => (by first | exact trivial | rfl | exact ⟨rfl, rfl⟩), fun z5 d4 => ?_, fun z5 => ?_⟩
      · refine rg_n2 ⟨_, rfl, fun p8 => ?_⟩
        refine rgs_cons (by show (6 : Nat) < 9; decide) rfl (hpv _ (by decide)) ?_
        refine rgs_cons (by show (7 : Nat) < 9; decide) rfl (hpv _ (by decide)) ?_
        refine rgs_nil ?_
        refine rs_at [some (.f x_names), some (.f x_first), some (.f x_nodes), some (.dc false z5.1), some (.l z5.2), some (.f t3.1), some (.f p8.1), some (.f p8.2), none] rfl ?_
        refine rs_seq ?_
        refine rs_set ?_ rfl (hpv _ (by decide))
        refine rd_call hec hE ?_
        refine ra_cons ?_
        refine rd_var rfl ?_
        intro _
        refine ra_cons ?_
        refine rd_dget ?_
        refine rd_ali rfl ?_
        intro _
        refine rd_var rfl ?_
        refine ⟨_, _, _, rfl, rfl, rfl, fun t10 => ?_⟩
        intro _
        refine ra_cons ?_
        refine rd_var rfl ?_
        intro _
        refine ra_nil ?_
        refine ⟨(x_names, t10, p8.1), _, rfl, rfl, rfl, fun r9 => ?_⟩
        refine ⟨_, rfl, (by show (8 : Nat) < 9; decide), ?_⟩
        refine rs_at [some (.f x_names), some (.f x_first), some (.f x_nodes), some (.dc false z5.1), some (.l z5.2), some (.f t3.1), some (.f p8.1), some (.f p8.2), some (.f r9)] rfl ?_
        refine rs_if ?_
        refine rt_dnotin ?_
        refine rd_var rfl ?_
        intro _
        refine rd_ali rfl ?_
        refine ⟨_, _, _, rfl, rfl, rfl, fun t11 => ?_⟩
        refine ⟨_, _, rfl, fun _ => ?_, fun _ => ?_⟩
        · refine rs_seq ?_
          refine rs_dput ?_
          refine rd_var rfl ?_
          refine ⟨_, rfl, fun _ => ?_⟩
          refine rd_ali rfl ?_
          refine ⟨3, rfl, fun _ => ?_⟩
          refine rd_var rfl ?_
          refine ⟨_, _, _, _, rfl, rfl, rfl, fun t12 => ?_⟩
          refine rs_at [some (.f x_names), some (.f x_first), some (.f x_nodes), some (.dc false t12), some (.l z5.2), some (.f t3.1), some (.f p8.1), some (.f p8.2), some (.f r9)] rfl ?_
          refine rs_drop ?_
          refine rd_append ?_
          refine rd_ali rfl ?_
          refine ⟨4, _, rfl, rfl, fun _ => ?_⟩
          refine rd_var rfl ?_
          refine ⟨_, _, _, rfl, rfl, rfl, fun t13 => ?_⟩
          exact ⟨_, rfl, ⟨.inr rfl, ⟨.inr rfl, ⟨.inr rfl, ⟨.inr rfl, ⟨.inr rfl, ⟨.inr rfl, ⟨.inl rfl, ⟨.inl rfl, ⟨.inl rfl, trivial⟩⟩⟩⟩⟩⟩⟩⟩⟩⟩
        · refine rs_if ?_
          refine rt_op2B o_ne ?_
          refine rd_dget ?_
          refine rd_ali rfl ?_
          intro _
          refine rd_var rfl ?_
          refine ⟨_, _, _, rfl, rfl, rfl, fun t15 => ?_⟩
          intro _
          refine rd_var rfl ?_
          refine ⟨_, _, _, rfl, rfl, rfl, fun t14 => ?_⟩
          refine ⟨_, _, rfl, fun _ => ?_, fun _ => ?_⟩
          · refine rs_ret ?_
            refine rd_non ?_
            refine ⟨_, rfl, ?_⟩
            exact ⟨_, rfl, ⟨_, rfl, ⟨_, rfl, rfl, trivial⟩⟩⟩
          · refine rs_next ?_
            exact ⟨_, rfl, ⟨.inr rfl, ⟨.inr rfl, ⟨.inr rfl, ⟨.inr rfl, ⟨.inr rfl, ⟨.inr rfl, ⟨.inl rfl, ⟨.inl rfl, ⟨.inl rfl, trivial⟩⟩⟩⟩⟩⟩⟩⟩⟩⟩
      · exact ⟨_, rfl, ⟨.inr rfl, ⟨.inr rfl, ⟨.inr rfl, ⟨.inr rfl, ⟨.inr rfl, ⟨.inl rfl, ⟨.inl rfl, ⟨.inl rfl, ⟨.inl rfl, trivial⟩⟩⟩⟩⟩⟩⟩⟩⟩⟩
    · refine rs_at [some (.f x_names), some (.f x_first), some (.f x_nodes), some (.dc false z1.2), some (.l z1.1), none, none, none, none] rfl ?_
      refine rs_onN ?_
      refine rs_ret ?_
      refine rd_frz rfl ?_
      refine ⟨_, rfl, ?_⟩
      exact ⟨_, rfl, rfl, trivial⟩
theorem ok_is_name (T : Tx K mg) : FnOk P w K mg base CX0 1 T.a_is_name T.d_is_name ["thing"] (spOf (A := D) (R := D) EC.ec (fun a => [.f a]) (fun a => m_is_name a) (fun r => .f r) (fun r => [none])) := by
  refine T.F_is_name.ok sc_is_name (fun vs H Q E h => ?_) (fun cdv A outer s H vs Q E hr h => ?_)
  · obtain ⟨a, G, w, _, _, hl, _⟩ := h; exact hl
  · refine ⟨_, (pss_cons (ps_if (pw_or (pt_not (pt_val (pe_callB (call_isiK' (Kf := K) (by rfl)) (by rfl) T.n_isinstance PyProof.Rows.boot_isinstance (pa_cons (pv 0) (pa_cons (pe_bltn (v := .ty "str") (u := .type "str") (by rfl) T.n_str (by decide +kernel) rfl) pa_nil))))) (pw_or1 (pt_not (pt_chain op_ltA op_ltA pe_int (pe_callB (call_lenK (Kf := K) (by rfl)) (by rfl) T.n_len PySem.boot_len (pa_cons (pv 0) pa_nil)) pe_int)))).pt (pss_one (ps_ret pe_bl)) pss_nil) (pss_one (ps_ret (pe_cmpR (op_eqM (hu_64 hr)) (pe_lc (own := [("sign", 1)]) rfl (by exact sc_is_name.nd) (pi_str (pv 0)) blk_is_name_0 (fun _ _ _ _ _ => (pg_name (i := 1) sc_is_name.nd rfl (by first | exact .inl rfl | exact .inr rfl))) (fun _ _ _ _ _ => (pts_one (pt_cmpR (op_notInK (Kf := K) (by rfl)) (pv 1) (pe_glob (v := .str (PySem.Str.ofString "abcdefghijklmnopqrstuvwxyz")) (by rfl) T.cg_LETTERS ⟨_, rfl⟩) rfl))) (fun _ _ _ _ _ => (pv 1))) (pe_lst pa_nil) (nomark _))))), ?_⟩
    refine fn_body (K := K) [] (fun _ => by show (1 : Nat) ≤ 2; decide) (fun _ => by show ∀ k ∈ ([] : List Nat), k < 1; decide) h (fun F x_thing hec hE hK hpv => ?_)
    skip
    show RS F [] [some (.f x_thing), none] (m_is_name x_thing) _ _ _
    unfold m_is_name
    refine rs_seq ?_
    refine rs_if ?_
    refine rt_or (Z := Unit) ?_
    refine rt_not ?_
    refine rt_val ?_
    refine rd_isi .str ?_
    refine rd_var rfl ?_
    refine ⟨_, _, rfl, rfl, fun t3 => ?_⟩
    refine ⟨_, _, rfl, rfl, fun t2 => ?_⟩
    refine ⟨fun z => [some (.f x_thing), none], (), _, _, rfl, ⟨.inr rfl, ⟨.inl rfl, trivial⟩⟩, fun _ => ?_, fun p1 => ?_⟩
    · refine rt_not ?_
      refine rt_chain o_lt o_lt ?_
      refine rd_int ?_
      intro _
      refine rd_cb1 o_len ?_
      refine rd_var rfl ?_
      refine ⟨_, _, rfl, rfl, fun t7 => ?_⟩
      refine ⟨_, _, _, rfl, rfl, rfl, fun t4 => ⟨_, _, rfl, fun _ _ => ?_, fun c5 => ?_⟩⟩
      · refine rd_int ?_
        exact ⟨_, _, rfl, rfl, rfl, ⟨.inr rfl, ⟨.inl rfl, trivial⟩⟩⟩
      · exact ⟨_, rfl, ⟨.inr rfl, ⟨.inl rfl, trivial⟩⟩⟩
    · refine ⟨_, _, rfl, fun _ => ?_, fun _ => ?_⟩
      · refine rs_ret ?_
        refine rd_bl ?_
        refine ⟨_, rfl, ?_⟩
        exact ⟨_, rfl, rfl, trivial⟩
      · refine rs_next ?_
        refine rs_at [some (.f x_thing), none] rfl ?_
        refine rs_ret ?_
        refine rd_op2B o_eq ?_
        refine rd_lcR [1] (fun i hi => hi) (all1 (hpv _ (by decide))) ?_
        refine ri_str ?_
        refine rd_var rfl ?_
        refine ⟨_, _, rfl, rfl, fun ds11 => ?_⟩
        refine ⟨[some (.f x_thing), none], _, _, rfl, ⟨.inr rfl, ⟨.inl rfl, trivial⟩⟩, (by first | exact trivial | rfl | exact ⟨rfl, rfl⟩), (all1 rfl), rfl, fun d9 _ _ => ?_, fun ys10 => ?_⟩
        · refine rg_name (by show (1 : Nat) < 2; decide) rfl (hpv _ (by decide)) ?_
          refine rt_op2B o_notIn ?_
          refine rd_var rfl ?_
          intro _
          refine rd_str e_q_abcdefghijklmnopqrstuvwxyz ?_
          refine ⟨_, _, _, rfl, rfl, rfl, fun t12 => ?_⟩
          refine ⟨_, _, rfl, fun _ => ?_, fun _ => ⟨rfl, ⟨.inr rfl, ⟨.inl rfl, trivial⟩⟩⟩⟩
          refine rd_var rfl ?_
          exact ⟨_, rfl, rfl, ⟨.inr rfl, ⟨.inl rfl, trivial⟩⟩⟩
        · intro _
          refine rd_lst ?_
          refine ra_nil ?_
          refine ⟨[], rfl, (by show (0 : Nat) ≤ 1000; decide), ?_⟩
          refine ⟨_, _, _, rfl, rfl, rfl, fun t8 => ?_⟩
          refine ⟨_, rfl, ?_⟩
          exact ⟨_, rfl, rfl, trivial⟩
theorem ok_are_names (T : Tx K mg) : FnOk P w K mg base CX0 2 T.a_are_names T.d_are_names ["thing"] (spOf (A := D) (R := D) EC.ec (fun a => [.f a]) (fun a => m_are_names a) (fun r => .f r) (fun r => [none])) := by
  refine T.F_are_names.ok sc_are_names (fun vs H Q E h => ?_) (fun cdv A outer s H vs Q E hr h => ?_)
  · obtain ⟨a, G, w, _, _, hl, _⟩ := h; exact hl
  · refine ⟨_, (pss_one (ps_ret (pe_and (pe_callB (call_isiK' (Kf := K) (by rfl)) (by rfl) T.n_isinstance PyProof.Rows.boot_isinstance (pa_cons (pv 0) (pa_cons (pe_bltn (v := .ty "list") (u := .type "list") (by rfl) T.n_list (by decide +kernel) rfl) pa_nil))) (pe_one (pe_cmpR (op_eqM (hu_64 hr)) (pe_lc (own := [("one", 1)]) rfl (by exact sc_are_names.nd) (pi_listK (Kf := K) (by rfl) (pv 0)) blk_are_names_0 (fun _ _ _ _ _ => (pg_name (i := 1) sc_are_names.nd rfl (by first | exact .inl rfl | exact .inr rfl))) (fun _ _ _ _ _ => (pts_one (pt_not (pt_val (pe_call (ok_is_name T) (hr.mono (by decide)) (by rfl) T.g_is_name T.F_is_name.kp T.b_is_name .nil (show Passes CX0 _ E from pass0) (pa_cons (pv 1) pa_nil)))))) (fun _ _ _ _ _ => (pv 1))) (pe_lst pa_nil) (nomark _)))))), ?_⟩
    refine fn_body (K := K) [] (fun _ => by show (1 : Nat) ≤ 2; decide) (fun _ => by show ∀ k ∈ ([] : List Nat), k < 1; decide) h (fun F x_thing hec hE hK hpv => ?_)
    skip
    show RS F [] [some (.f x_thing), none] (m_are_names x_thing) _ _ _
    unfold m_are_names
    refine rs_ret ?_
    refine rd_andV (Z := Unit) ?_
    refine rd_isi .list ?_
    refine rd_var rfl ?_
    refine ⟨_, _, rfl, rfl, fun t3 => ?_⟩
    refine ⟨_, _, rfl, rfl, fun t1 => ⟨fun z => [some (.f x_thing), none], (), _, _, rfl, ⟨.inr rfl, ⟨.inl rfl, trivial⟩⟩, fun _ => ?_, fun p2 => ?_⟩⟩
    · refine rd_op2B o_eq ?_
      refine rd_lcR [1] (fun i hi => hi) (all1 (hpv _ (by decide))) ?_
      refine ri_lst ?_
      refine rd_var rfl ?_
      refine ⟨_, _, rfl, rfl, fun ds7 _ => ?_⟩
      refine ⟨[some (.f x_thing), none], _, _, rfl, ⟨.inr rfl, ⟨.inl rfl, trivial⟩⟩, (by first | exact trivial | rfl | exact ⟨rfl, rfl⟩), (all1 rfl), rfl, fun d5 _ _ => ?_, fun ys6 => ?_⟩
      · refine rg_name (by show (1 : Nat) < 2; decide) rfl (hpv _ (by decide)) ?_
        refine rt_not ?_
        refine rt_val ?_
        refine rd_call hec hE ?_
        refine ra_cons ?_
        refine rd_var rfl ?_
        intro _
        refine ra_nil ?_
        refine ⟨(d5), _, rfl, rfl, rfl, fun r9 => ?_⟩
        refine ⟨_, _, rfl, rfl, fun t8 => ?_⟩
        refine ⟨_, _, rfl, fun _ => ?_, fun _ => ⟨rfl, ⟨.inr rfl, ⟨.inl rfl, trivial⟩⟩⟩⟩
        refine rd_var rfl ?_
        exact ⟨_, rfl, rfl, ⟨.inr rfl, ⟨.inl rfl, trivial⟩⟩⟩
      · intro _
        refine rd_lst ?_
        refine ra_nil ?_
        refine ⟨[], rfl, (by show (0 : Nat) ≤ 1000; decide), ?_⟩
        refine ⟨_, _, _, rfl, rfl, rfl, fun t4 => ?_⟩
        exact ⟨_, _, rfl, rfl, ⟨.inr rfl, ⟨.inl rfl, trivial⟩⟩⟩
    · refine ⟨_, rfl, ?_⟩
      exact ⟨_, rfl, rfl, trivial⟩
theorem ok_are_signs (T : Tx K mg) : FnOk P w K mg base CX0 1 T.a_are_signs T.d_are_signs ["thing", "many"] (spOf (A := D × D) (R := D) EC.ec (fun a => [.f a.1, .f a.2]) (fun a => m_are_signs a.1 a.2) (fun r => .f r) (fun r => [none, none])) := by
  refine T.F_are_signs.ok sc_are_signs (fun vs H Q E h => ?_) (fun cdv A outer s H vs Q E hr h => ?_)
  · obtain ⟨a, G, w, _, _, hl, _⟩ := h; exact hl
  · refine ⟨_, (pss_cons (ps_if (pw_or (pt_not (pt_val (pe_callB (call_isiK' (Kf := K) (by rfl)) (by rfl) T.n_isinstance PyProof.Rows.boot_isinstance (pa_cons (pv 0) (pa_cons (pe_bltn (v := .ty "str") (u := .type "str") (by rfl) T.n_str (by decide +kernel) rfl) pa_nil))))) (pw_or1 (pt_cmpR (op_neM (hu_64 hr)) (pe_callB (call_lenK (Kf := K) (by rfl)) (by rfl) T.n_len PySem.boot_len (pa_cons (pv 0) pa_nil)) (pv 1) (nomark _)))).pt (pss_one (ps_ret pe_bl)) pss_nil) (pss_one (ps_ret (pe_cmpR (op_eqM (hu_64 hr)) (pe_lc (own := [("sign", 2)]) rfl (by exact sc_are_signs.nd) (pi_str (pv 0)) blk_are_signs_0 (fun _ _ _ _ _ => (pg_name (i := 2) sc_are_signs.nd rfl (by first | exact .inl rfl | exact .inr rfl))) (fun _ _ _ _ _ => (pts_one (pt_cmpR (op_notInK (Kf := K) (by rfl)) (pv 2) pe_str rfl))) (fun _ _ _ _ _ => (pv 2))) (pe_lst pa_nil) (nomark _))))), ?_⟩
    refine fn_body (K := K) [] (fun _ => by show (2 : Nat) ≤ 3; decide) (fun _ => by show ∀ k ∈ ([] : List Nat), k < 2; decide) h (fun F a hec hE hK hpv => ?_)
    obtain ⟨x_thing, x_many⟩ := a
    show RS F [] [some (.f x_thing), some (.f x_many), none] (m_are_signs x_thing x_many) _ _ _
    unfold m_are_signs
    refine rs_seq ?_
    refine rs_if ?_
    refine rt_or (Z := Unit) ?_
    refine rt_not ?_
    refine rt_val ?_
    refine rd_isi .str ?_
    refine rd_var rfl ?_
    refine ⟨_, _, rfl, rfl, fun t3 => ?_⟩
    refine ⟨_, _, rfl, rfl, fun t2 => ?_⟩
    refine ⟨fun z => [some (.f x_thing), some (.f x_many), none], (), _, _, rfl, ⟨.inr rfl, ⟨.inr rfl, ⟨.inl rfl, trivial⟩⟩⟩, fun _ => ?_, fun p1 => ?_⟩
    · refine rt_op2B o_ne ?_
      refine rd_cb1 o_len ?_
      refine rd_var rfl ?_
      refine ⟨_, _, rfl, rfl, fun t5 => ?_⟩
      intro _
      refine rd_var rfl ?_
      refine ⟨_, _, _, rfl, rfl, rfl, fun t4 => ?_⟩
      exact ⟨_, rfl, ⟨.inr rfl, ⟨.inr rfl, ⟨.inl rfl, trivial⟩⟩⟩⟩
    · refine ⟨_, _, rfl, fun _ => ?_, fun _ => ?_⟩
      · refine rs_ret ?_
        refine rd_bl ?_
        refine ⟨_, rfl, ?_⟩
        exact ⟨_, rfl, rfl, trivial⟩
      · refine rs_next ?_
        refine rs_at [some (.f x_thing), some (.f x_many), none] rfl ?_
        refine rs_ret ?_
        refine rd_op2B o_eq ?_
        refine rd_lcR [2] (fun i hi => hi) (all1 (hpv _ (by decide))) ?_
        refine ri_str ?_
        refine rd_var rfl ?_
        refine ⟨_, _, rfl, rfl, fun ds9 => ?_⟩
        refine ⟨[some (.f x_thing), some (.f x_many), none], _, _, rfl, ⟨.inr rfl, ⟨.inr rfl, ⟨.inl rfl, trivial⟩⟩⟩, (by first | exact trivial | rfl | exact ⟨rfl, rfl⟩), (all1 rfl), rfl, fun d7 _ _ => ?_, fun ys8 => ?_⟩
        · refine rg_name (by show (2 : Nat) < 3; decide) rfl (hpv _ (by decide)) ?_
          refine rt_op2B o_notIn ?_
          refine rd_var rfl ?_
          intro _
          refine rd_str e_q_01 ?_
          refine ⟨_, _, _, rfl, rfl, rfl, fun t10 => ?_⟩
          refine ⟨_, _, rfl, fun _ => ?_, fun _ => ⟨rfl, ⟨.inr rfl, ⟨.inr rfl, ⟨.inl rfl, trivial⟩⟩⟩⟩⟩
          refine rd_var rfl ?_
          exact ⟨_, rfl, rfl, ⟨.inr rfl, ⟨.inr rfl, ⟨.inl rfl, trivial⟩⟩⟩⟩
        · intro _
          refine rd_lst ?_
          refine ra_nil ?_
          refine ⟨[], rfl, (by show (0 : Nat) ≤ 1000; decide), ?_⟩
          refine ⟨_, _, _, rfl, rfl, rfl, fun t6 => ?_⟩
          refine ⟨_, rfl, ?_⟩
          exact ⟨_, rfl, rfl, trivial⟩
theorem ok_is_whole (T : Tx K mg) : FnOk P w K mg base CX0 1 T.a_is_whole T.d_is_whole ["thing"] (spOf (A := D) (R := D) EC.ec (fun a => [.f a]) (fun a => m_is_whole a) (fun r => .f r) (fun r => [none])) := by
  refine T.F_is_whole.ok sc_is_whole (fun vs H Q E h => ?_) (fun cdv A outer s H vs Q E hr h => ?_)
  · obtain ⟨a, G, w, _, _, hl, _⟩ := h; exact hl
  · refine ⟨_, (pss_one (ps_ret (pe_and (pe_callB (call_isiK' (Kf := K) (by rfl)) (by rfl) T.n_isinstance PyProof.Rows.boot_isinstance (pa_cons (pv 0) (pa_cons (pe_bltn (v := .ty "int") (u := .type "int") (by rfl) T.n_int (by decide +kernel) rfl) pa_nil))) (pe_one (pe_not (pe_callB (call_isiK' (Kf := K) (by rfl)) (by rfl) T.n_isinstance PyProof.Rows.boot_isinstance (pa_cons (pv 0) (pa_cons (pe_bltn (v := .ty "bool") (u := .type "bool") (by rfl) T.n_bool (by decide +kernel) rfl) pa_nil)))))))), ?_⟩
    refine fn_body (K := K) [] (fun _ => by show (1 : Nat) ≤ 1; decide) (fun _ => by show ∀ k ∈ ([] : List Nat), k < 1; decide) h (fun F x_thing hec hE hK hpv => ?_)
    skip
    show RS F [] [some (.f x_thing)] (m_is_whole x_thing) _ _ _
    unfold m_is_whole
    refine rs_ret ?_
    refine rd_andV (Z := Unit) ?_
    refine rd_isi .int ?_
    refine rd_var rfl ?_
    refine ⟨_, _, rfl, rfl, fun t3 => ?_⟩
    refine ⟨_, _, rfl, rfl, fun t1 => ⟨fun z => [some (.f x_thing)], (), _, _, rfl, ⟨.inr rfl, trivial⟩, fun _ => ?_, fun p2 => ?_⟩⟩
    · refine rd_notV ?_
      refine rd_isi .bool ?_
      refine rd_var rfl ?_
      refine ⟨_, _, rfl, rfl, fun t5 => ?_⟩
      refine ⟨_, _, rfl, rfl, fun t4 => ?_⟩
      exact ⟨_, _, rfl, rfl, ⟨.inr rfl, trivial⟩⟩
    · refine ⟨_, rfl, ?_⟩
      exact ⟨_, rfl, rfl, trivial⟩
theorem ok_is_turn (T : Tx K mg) : FnOk P w K mg base CX0 2 T.a_is_turn T.d_is_turn ["thing", "names", "many"] (spOf (A := D × D × D) (R := D) EC.ec (fun a => [.f a.1, .f a.2.1, .f a.2.2]) (fun a => m_is_turn a.1 a.2.1 a.2.2) (fun r => .f r) (fun r => [none, none, none])) := by
  refine T.F_is_turn.ok sc_is_turn (fun vs H Q E h => ?_) (fun cdv A outer s H vs Q E hr h => ?_)
  · obtain ⟨a, G, w, _, _, hl, _⟩ := h; exact hl
  · refine ⟨_, (pss_cons (ps_if (pw_or (pt_not (pt_val (pe_callB (call_isiK' (Kf := K) (by rfl)) (by rfl) T.n_isinstance PyProof.Rows.boot_isinstance (pa_cons (pv 0) (pa_cons (pe_bltn (v := .ty "tuple") (u := .type "tuple") (by rfl) T.n_tuple (by decide +kernel) rfl) pa_nil))))) (pw_or (pt_cmpR (op_neM (hu_64 hr)) (pe_callB (call_lenK (Kf := K) (by rfl)) (by rfl) T.n_len PySem.boot_len (pa_cons (pv 0) pa_nil)) pe_int (nomark _)) (pw_or1 (pt_not (pt_val (pe_callB (call_isiK' (Kf := K) (by rfl)) (by rfl) T.n_isinstance PyProof.Rows.boot_isinstance (pa_cons (pe_ix (ix_anyK (Kf := K) (by rfl)) (pv 0) pe_int (fun _ _ => rfl)) (pa_cons (pe_bltn (v := .ty "str") (u := .type "str") (by rfl) T.n_str (by decide +kernel) rfl) pa_nil)))))))).pt (pss_one (ps_ret pe_bl)) pss_nil) (pss_one (ps_ret (pe_and (pe_cmpR (op_inK (Kf := K) (by rfl)) (pe_ix (ix_anyK (Kf := K) (by rfl)) (pv 0) pe_int (fun _ _ => rfl)) (pv 1) rfl) (pe_and (pe_call (ok_is_whole T) (hr.mono (by decide)) (by rfl) T.g_is_whole T.F_is_whole.kp T.b_is_whole .nil (show Passes CX0 _ E from pass0) (pa_cons (pe_ix (ix_anyK (Kf := K) (by rfl)) (pv 0) pe_int (fun _ _ => rfl)) pa_nil)) (pe_one (pe_chain op_le op_ltA pe_int (pe_ix (ix_anyK (Kf := K) (by rfl)) (pv 0) pe_int (fun _ _ => rfl)) (pv 2)))))))), ?_⟩
    refine fn_body (K := K) [] (fun _ => by show (3 : Nat) ≤ 3; decide) (fun _ => by show ∀ k ∈ ([] : List Nat), k < 3; decide) h (fun F a hec hE hK hpv => ?_)
    obtain ⟨x_thing, x_names, x_many⟩ := a
    show RS F [] [some (.f x_thing), some (.f x_names), some (.f x_many)] (m_is_turn x_thing x_names x_many) _ _ _
    unfold m_is_turn
    refine rs_seq ?_
    refine rs_if ?_
    refine rt_or (Z := Unit) ?_
    refine rt_not ?_
    refine rt_val ?_
    refine rd_isi .tuple ?_
    refine rd_var rfl ?_
    refine ⟨_, _, rfl, rfl, fun t3 => ?_⟩
    refine ⟨_, _, rfl, rfl, fun t2 => ?_⟩
    refine ⟨fun z => [some (.f x_thing), some (.f x_names), some (.f x_many)], (), _, _, rfl, ⟨.inr rfl, ⟨.inr rfl, ⟨.inr rfl, trivial⟩⟩⟩, fun _ => ?_, fun p1 => ?_⟩
    · refine rt_or (Z := Unit) ?_
      refine rt_op2B o_ne ?_
      refine rd_cb1 o_len ?_
      refine rd_var rfl ?_
      refine ⟨_, _, rfl, rfl, fun t6 => ?_⟩
      intro _
      refine rd_int ?_
      refine ⟨_, _, _, rfl, rfl, rfl, fun t5 => ?_⟩
      refine ⟨fun z => [some (.f x_thing), some (.f x_names), some (.f x_many)], (), _, _, rfl, ⟨.inr rfl, ⟨.inr rfl, ⟨.inr rfl, trivial⟩⟩⟩, fun _ => ?_, fun p4 => ?_⟩
      · refine rt_not ?_
        refine rt_val ?_
        refine rd_isi .str ?_
        refine rd_op2 o_ix ?_
        refine rd_var rfl ?_
        intro _
        refine rd_int ?_
        refine ⟨_, _, _, rfl, rfl, rfl, fun t9 => ?_⟩
        refine ⟨_, _, rfl, rfl, fun t8 => ?_⟩
        refine ⟨_, _, rfl, rfl, fun t7 => ?_⟩
        exact ⟨_, rfl, ⟨.inr rfl, ⟨.inr rfl, ⟨.inr rfl, trivial⟩⟩⟩⟩
      · exact ⟨_, rfl, ⟨.inr rfl, ⟨.inr rfl, ⟨.inr rfl, trivial⟩⟩⟩⟩
    · refine ⟨_, _, rfl, fun _ => ?_, fun _ => ?_⟩
      · refine rs_ret ?_
        refine rd_bl ?_
        refine ⟨_, rfl, ?_⟩
        exact ⟨_, rfl, rfl, trivial⟩
      · refine rs_next ?_
        refine rs_at [some (.f x_thing), some (.f x_names), some (.f x_many)] rfl ?_
        refine rs_ret ?_
        refine rd_andV (Z := Unit) ?_
        refine rd_op2B o_in ?_
        refine rd_op2 o_ix ?_
        refine rd_var rfl ?_
        intro _
        refine rd_int ?_
        refine ⟨_, _, _, rfl, rfl, rfl, fun t13 => ?_⟩
        intro _
        refine rd_var rfl ?_
        refine ⟨_, _, _, rfl, rfl, rfl, fun t12 => ?_⟩
        refine ⟨_, _, rfl, rfl, fun t10 => ⟨fun z => [some (.f x_thing), some (.f x_names), some (.f x_many)], (), _, _, rfl, ⟨.inr rfl, ⟨.inr rfl, ⟨.inr rfl, trivial⟩⟩⟩, fun _ => ?_, fun p11 => ?_⟩⟩
        · refine rd_andV (Z := Unit) ?_
          refine rd_call hec hE ?_
          refine ra_cons ?_
          refine rd_op2 o_ix ?_
          refine rd_var rfl ?_
          intro _
          refine rd_int ?_
          refine ⟨_, _, _, rfl, rfl, rfl, fun t17 => ?_⟩
          intro _
          refine ra_nil ?_
          refine ⟨(t17), _, rfl, rfl, rfl, fun r16 => ?_⟩
          refine ⟨_, _, rfl, rfl, fun t14 => ⟨fun z => [some (.f x_thing), some (.f x_names), some (.f x_many)], (), _, _, rfl, ⟨.inr rfl, ⟨.inr rfl, ⟨.inr rfl, trivial⟩⟩⟩, fun _ => ?_, fun p15 => ?_⟩⟩
          · refine rd_chain o_le o_lt ?_
            refine rd_int ?_
            intro _
            refine rd_op2 o_ix ?_
            refine rd_var rfl ?_
            intro _
            refine rd_int ?_
            refine ⟨_, _, _, rfl, rfl, rfl, fun t21 => ?_⟩
            refine ⟨_, _, _, rfl, rfl, rfl, fun t18 => ⟨_, _, rfl, fun _ _ => ?_, fun c19 => ?_⟩⟩
            · refine rd_var rfl ?_
              exact ⟨_, _, rfl, rfl, rfl, ⟨.inr rfl, ⟨.inr rfl, ⟨.inr rfl, trivial⟩⟩⟩⟩
            · exact ⟨_, _, rfl, rfl, ⟨.inr rfl, ⟨.inr rfl, ⟨.inr rfl, trivial⟩⟩⟩⟩
          · exact ⟨_, _, rfl, rfl, ⟨.inr rfl, ⟨.inr rfl, ⟨.inr rfl, trivial⟩⟩⟩⟩
        · refine ⟨_, rfl, ?_⟩
          exact ⟨_, rfl, rfl, trivial⟩
theorem ok_is_node (T : Tx K mg) : FnOk P w K mg base CX0 3 T.a_is_node T.d_is_node ["thing", "names", "many"] (spOf (A := D × D × D) (R := D) EC.ec (fun a => [.f a.1, .f a.2.1, .f a.2.2]) (fun a => m_is_node a.1 a.2.1 a.2.2) (fun r => .f r) (fun r => [none, none, none])) := by
  refine T.F_is_node.ok sc_is_node (fun vs H Q E h => ?_) (fun cdv A outer s H vs Q E hr h => ?_)
  · obtain ⟨a, G, w, _, _, hl, _⟩ := h; exact hl
  · refine ⟨_, (pss_cons (ps_if (pt_not (pt_val (pe_callB (call_isiK' (Kf := K) (by rfl)) (by rfl) T.n_isinstance PyProof.Rows.boot_isinstance (pa_cons (pv 0) (pa_cons (pe_bltn (v := .ty "list") (u := .type "list") (by rfl) T.n_list (by decide +kernel) rfl) pa_nil))))) (pss_one (ps_ret pe_bl)) pss_nil) (pss_cons (ps_set (i := 3) sc_is_node.nd rfl (by first | exact .inl rfl | exact .inr rfl) pe_dnewK) (pss_cons (ps_for PassesOwn.never rfl (pi_listK (Kf := K) (by rfl) (pv 0)) (pg_name (i := 4) sc_is_node.nd rfl (by first | exact .inl rfl | exact .inr rfl)) (pss_cons (ps_if (pw_or (pt_not (pt_val (pe_call (ok_is_turn T) (hr.mono (by decide)) (by rfl) T.g_is_turn T.F_is_turn.kp T.b_is_turn .nil (show Passes CX0 _ E from pass0) (pa_cons (pv 4) (pa_cons (pv 1) (pa_cons (pv 2) pa_nil)))))) (pw_or1 (pt_cmp (pc_din (hu_1 hr) (pe_ix (ix_anyK (Kf := K) (by rfl)) (pv 4) pe_int (fun _ _ => rfl)) (pv 3))))).pt (pss_one (ps_ret pe_bl)) pss_nil) (pss_one (ps_dput (hu_1 hr) (pv 3) (pe_ix (ix_anyK (Kf := K) (by rfl)) (pv 4) pe_int (fun _ _ => rfl)) pe_bl (by rfl))))) (pss_one (ps_ret pe_bl))))), ?_⟩
    refine fn_body (K := K) [] (fun _ => by show (3 : Nat) ≤ 5; decide) (fun _ => by show ∀ k ∈ ([] : List Nat), k < 3; decide) h (fun F a hec hE hK hpv => ?_)
    obtain ⟨x_thing, x_names, x_many⟩ := a
    show RS F [] [some (.f x_thing), some (.f x_names), some (.f x_many), none, none] (m_is_node x_thing x_names x_many) _ _ _
    unfold m_is_node
    refine rs_seq ?_
    refine rs_if ?_
    refine rt_not ?_
    refine rt_val ?_
    refine rd_isi .list ?_
    refine rd_var rfl ?_
    refine ⟨_, _, rfl, rfl, fun t2 => ?_⟩
    refine ⟨_, _, rfl, rfl, fun t1 => ?_⟩
    refine ⟨_, _, rfl, fun _ => ?_, fun _ => ?_⟩
    · refine rs_ret ?_
      refine rd_bl ?_
      refine ⟨_, rfl, ?_⟩
      exact ⟨_, rfl, rfl, trivial⟩
    · refine rs_next ?_
      refine rs_at [some (.f x_thing), some (.f x_names), some (.f x_many), none, none] rfl ?_
      refine rs_seq ?_
      refine rs_set ?_ rfl (hpv _ (by decide))
      refine rd_dnewK ?_
      refine ⟨_, rfl, (by show (3 : Nat) < 5; decide), ?_⟩
      refine rs_at [some (.f x_thing), some (.f x_names), some (.f x_many), some (.dc false []), none] rfl ?_
      refine rs_seq ?_
      refine rs_for (Z := (List (D × D))) (R' := D) [4] ?_
      refine ri_lst ?_
      refine rd_var rfl ?_
      refine ⟨_, _, rfl, rfl, fun ds5 _ => ?_⟩
      refine ⟨fun z4 => [some (.f x_thing), some (.f x_names), some (.f x_many), some (.dc false z4), none], _, _, _, rfl, ⟨.inr rfl, ⟨.inr rfl, ⟨.inr rfl, ⟨.inr rfl, ⟨.inl rfl, trivial⟩⟩⟩⟩⟩, fun _ => (by first | exact trivial | rfl | exact ⟨rfl, rfl⟩), fun z4 d3 => ?_, fun z4 => ?_⟩
      · refine rg_name (by show (4 : Nat) < 5; decide) rfl (hpv _ (by decide)) ?_
        refine rs_at [some (.f x_thing), some (.f x_names), some (.f x_many), some (.dc false z4), some (.f d3)] rfl ?_
        refine rs_seq ?_
        refine rs_if ?_
        refine rt_or (Z := Unit) ?_
        refine rt_not ?_
        refine rt_val ?_
        refine rd_call hec hE ?_
        refine ra_cons ?_
        refine rd_var rfl ?_
        intro _
        refine ra_cons ?_
        refine rd_var rfl ?_
        intro _
        refine ra_cons ?_
        refine rd_var rfl ?_
        intro _
        refine ra_nil ?_
        refine ⟨(d3, x_names, x_many), _, rfl, rfl, rfl, fun r8 => ?_⟩
        refine ⟨_, _, rfl, rfl, fun t7 => ?_⟩
        refine ⟨fun z => [some (.f x_thing), some (.f x_names), some (.f x_many), some (.dc false z4), some (.f d3)], (), _, _, rfl, ⟨.inr rfl, ⟨.inr rfl, ⟨.inr rfl, ⟨.inr rfl, ⟨.inr rfl, trivial⟩⟩⟩⟩⟩, fun _ => ?_, fun p6 => ?_⟩
        · refine rt_din ?_
          refine rd_op2 o_ix ?_
          refine rd_var rfl ?_
          intro _
          refine rd_int ?_
          refine ⟨_, _, _, rfl, rfl, rfl, fun t10 => ?_⟩
          intro _
          refine rd_ali rfl ?_
          refine ⟨_, _, _, rfl, rfl, rfl, fun t9 => ?_⟩
          exact ⟨_, rfl, ⟨.inr rfl, ⟨.inr rfl, ⟨.inr rfl, ⟨.inr rfl, ⟨.inr rfl, trivial⟩⟩⟩⟩⟩⟩
        · refine ⟨_, _, rfl, fun _ => ?_, fun _ => ?_⟩
          · refine rs_ret ?_
            refine rd_bl ?_
            refine ⟨_, rfl, ?_⟩
            exact ⟨_, rfl, ⟨_, rfl, rfl, trivial⟩⟩
          · refine rs_next ?_
            refine rs_at [some (.f x_thing), some (.f x_names), some (.f x_many), some (.dc false z4), some (.f d3)] rfl ?_
            refine rs_dput ?_
            refine rd_bl ?_
            refine ⟨_, rfl, fun _ => ?_⟩
            refine rd_ali rfl ?_
            refine ⟨3, rfl, fun _ => ?_⟩
            refine rd_op2 o_ix ?_
            refine rd_var rfl ?_
            intro _
            refine rd_int ?_
            refine ⟨_, _, _, rfl, rfl, rfl, fun t12 => ?_⟩
            refine ⟨_, _, _, _, rfl, rfl, rfl, fun t11 => ?_⟩
            exact ⟨_, rfl, ⟨.inr rfl, ⟨.inr rfl, ⟨.inr rfl, ⟨.inr rfl, ⟨.inl rfl, trivial⟩⟩⟩⟩⟩⟩
      · refine rs_at [some (.f x_thing), some (.f x_names), some (.f x_many), some (.dc false z4), none] rfl ?_
        refine rs_onN ?_
        refine rs_ret ?_
        refine rd_bl ?_
        refine ⟨_, rfl, ?_⟩
        exact ⟨_, rfl, rfl, trivial⟩
theorem ok_is_sheet (T : Tx K mg) : FnOk P w K mg base CX0 4 T.a_is_sheet T.d_is_sheet ["thing"] (spOf (A := D) (R := D) EC.ec (fun a => [.f a]) (fun a => m_is_sheet a) (fun r => .f r) (fun r => [none])) := by
  refine T.F_is_sheet.ok sc_is_sheet (fun vs H Q E h => ?_) (fun cdv A outer s H vs Q E hr h => ?_)
  · obtain ⟨a, G, w, _, _, hl, _⟩ := h; exact hl
  · refine ⟨_, (pss_cons (ps_if (pw_or (pt_not (pt_val (pe_callB (call_isiK' (Kf := K) (by rfl)) (by rfl) T.n_isinstance PyProof.Rows.boot_isinstance (pa_cons (pv 0) (pa_cons (pe_bltn (v := .ty "tuple") (u := .type "tuple") (by rfl) T.n_tuple (by decide +kernel) rfl) pa_nil))))) (pw_or1 (pt_cmpR (op_neM (hu_64 hr)) (pe_callB (call_lenK (Kf := K) (by rfl)) (by rfl) T.n_len PySem.boot_len (pa_cons (pv 0) pa_nil)) pe_int (nomark _)))).pt (pss_one (ps_ret pe_bl)) pss_nil) (pss_cons (ps_asg (pv 0) (pg_tupK (Kf := K) (n := 4) (by rfl) rfl (pgs_cons (pg_name (i := 2) sc_is_sheet.nd rfl (by first | exact .inl rfl | exact .inr rfl)) (pgs_cons (pg_name (i := 3) sc_is_sheet.nd rfl (by first | exact .inl rfl | exact .inr rfl)) (pgs_cons (pg_name (i := 4) sc_is_sheet.nd rfl (by first | exact .inl rfl | exact .inr rfl)) (pgs_cons (pg_name (i := 5) sc_is_sheet.nd rfl (by first | exact .inl rfl | exact .inr rfl)) pgs_nil)))))) (pss_cons (ps_if (pw_or (pt_not (pt_val (pe_call (ok_are_names T) (hr.mono (by decide)) (by rfl) T.g_are_names T.F_are_names.kp T.b_are_names .nil (show Passes CX0 _ E from pass0) (pa_cons (pv 2) pa_nil)))) (pw_or (pt_not (pt_val (pe_call (ok_are_names T) (hr.mono (by decide)) (by rfl) T.g_are_names T.F_are_names.kp T.b_are_names .nil (show Passes CX0 _ E from pass0) (pa_cons (pv 3) pa_nil)))) (pw_or (pt_cmpR op_gt (pe_callB (call_lenK (Kf := K) (by rfl)) (by rfl) T.n_len PySem.boot_len (pa_cons (pv 2) pa_nil)) pe_int (nomark _)) (pw_or1 (pt_not (pt_chain op_ltA op_ltA pe_int (pe_callB (call_lenK (Kf := K) (by rfl)) (by rfl) T.n_len PySem.boot_len (pa_cons (pv 3) pa_nil)) pe_int)))))).pt (pss_one (ps_ret pe_bl)) pss_nil) (pss_cons (ps_set (i := 1) sc_is_sheet.nd rfl (by first | exact .inl rfl | exact .inr rfl) (pe_op op_catR (pv 2) (pv 3))) (pss_cons (ps_if (pw_or (pt_cmpR (op_neM (hu_64 hr)) (pe_lenSetN (Kf := K) (by rfl) (by rfl) (by rfl) T.n_len (by rfl) T.n_set (pv 1)) (pe_callB (call_lenK (Kf := K) (by rfl)) (by rfl) T.n_len PySem.boot_len (pa_cons (pv 1) pa_nil)) (nomark _)) (pw_or1 (pt_not (pt_val (pe_call (ok_are_signs T) (hr.mono (by decide)) (by rfl) T.g_are_signs T.F_are_signs.kp T.b_are_signs .nil (show Passes CX0 _ E from pass0) (pa_cons (pv 4) (pa_cons (pe_callB (call_lenK (Kf := K) (by rfl)) (by rfl) T.n_len PySem.boot_len (pa_cons (pv 1) pa_nil)) pa_nil))))))).pt (pss_one (ps_ret pe_bl)) pss_nil) (pss_cons (ps_if (pw_or (pt_not (pt_val (pe_callB (call_isiK' (Kf := K) (by rfl)) (by rfl) T.n_isinstance PyProof.Rows.boot_isinstance (pa_cons (pv 5) (pa_cons (pe_bltn (v := .ty "list") (u := .type "list") (by rfl) T.n_list (by decide +kernel) rfl) pa_nil))))) (pw_or1 (pt_not (pt_chain op_ltA op_le pe_int (pe_callB (call_lenK (Kf := K) (by rfl)) (by rfl) T.n_len PySem.boot_len (pa_cons (pv 5) pa_nil)) (pe_glob (v := .int 40) (by rfl) T.cg_MOST_NODES ⟨_, rfl⟩))))).pt (pss_one (ps_ret pe_bl)) pss_nil) (pss_cons (ps_if (pt_cmpR (op_neM (hu_64 hr)) (pe_lc (own := [("node", 6)]) rfl (by exact sc_is_sheet.nd) (pi_listK (Kf := K) (by rfl) (pv 5)) blk_is_sheet_0 (fun _ _ _ _ _ => (pg_name (i := 6) sc_is_sheet.nd rfl (by first | exact .inl rfl | exact .inr rfl))) (fun _ _ _ _ _ => (pts_one (pt_not (pt_val (pe_call (ok_is_node T) (hr.mono (by decide)) (by rfl) T.g_is_node T.F_is_node.kp T.b_is_node .nil (show Passes CX0 _ E from pass0) (pa_cons (pv 6) (pa_cons (pv 1) (pa_cons (pe_callB (call_lenK (Kf := K) (by rfl)) (by rfl) T.n_len PySem.boot_len (pa_cons (pv 5) pa_nil)) pa_nil)))))))) (fun _ _ _ _ _ => (pv 6))) (pe_lst pa_nil) (nomark _)) (pss_one (ps_ret pe_bl)) pss_nil) (pss_one (ps_ret (pe_cmpR op_notN (pe_call (ok_rows_of T) (hr.mono (by decide)) (by rfl) T.g_rows_of T.F_rows_of.kp T.b_rows_of .nil (show Passes CX0 _ E from pass0) (pa_cons (pv 1) (pa_cons (pv 4) (pa_cons (pv 5) pa_nil)))) pe_non (nomark _))))))))))), ?_⟩
    refine fn_body (K := K) [] (fun _ => by show (1 : Nat) ≤ 7; decide) (fun _ => by show ∀ k ∈ ([] : List Nat), k < 1; decide) h (fun F x_thing hec hE hK hpv => ?_)
    skip
    show RS F [] [some (.f x_thing), none, none, none, none, none, none] (m_is_sheet x_thing) _ _ _
    unfold m_is_sheet
    refine rs_seq ?_
    refine rs_if ?_
    refine rt_or (Z := Unit) ?_
    refine rt_not ?_
    refine rt_val ?_
    refine rd_isi .tuple ?_
    refine rd_var rfl ?_
    refine ⟨_, _, rfl, rfl, fun t3 => ?_⟩
    refine ⟨_, _, rfl, rfl, fun t2 => ?_⟩
    refine ⟨fun z => [some (.f x_thing), none, none, none, none, none, none], (), _, _, rfl, ⟨.inr rfl, ⟨.inl rfl, ⟨.inl rfl, ⟨.inl rfl, ⟨.inl rfl, ⟨.inl rfl, ⟨.inl rfl, trivial⟩⟩⟩⟩⟩⟩⟩, fun _ => ?_, fun p1 => ?_⟩
    · refine rt_op2B o_ne ?_
      refine rd_cb1 o_len ?_
      refine rd_var rfl ?_
      refine ⟨_, _, rfl, rfl, fun t5 => ?_⟩
      intro _
      refine rd_int ?_
      refine ⟨_, _, _, rfl, rfl, rfl, fun t4 => ?_⟩
      exact ⟨_, rfl, ⟨.inr rfl, ⟨.inl rfl, ⟨.inl rfl, ⟨.inl rfl, ⟨.inl rfl, ⟨.inl rfl, ⟨.inl rfl, trivial⟩⟩⟩⟩⟩⟩⟩⟩
    · refine ⟨_, _, rfl, fun _ => ?_, fun _ => ?_⟩
      · refine rs_ret ?_
        refine rd_bl ?_
        refine ⟨_, rfl, ?_⟩
        exact ⟨_, rfl, rfl, trivial⟩
      · refine rs_next ?_
        refine rs_at [some (.f x_thing), none, none, none, none, none, none] rfl ?_
        refine rs_seq ?_
        refine rs_asgG [2, 3, 4, 5] ?_
        refine rd_var rfl ?_
        refine ⟨_, rfl, ?_⟩
        refine rg_n4 ⟨_, rfl, fun p6 => ?_⟩
        refine rgs_cons (by show (2 : Nat) < 7; decide) rfl (hpv _ (by decide)) ?_
        refine rgs_cons (by show (3 : Nat) < 7; decide) rfl (hpv _ (by decide)) ?_
        refine rgs_cons (by show (4 : Nat) < 7; decide) rfl (hpv _ (by decide)) ?_
        refine rgs_cons (by show (5 : Nat) < 7; decide) rfl (hpv _ (by decide)) ?_
        refine rgs_nil ?_
        refine rs_at [some (.f x_thing), none, some (.f p6.1), some (.f p6.2.1), some (.f p6.2.2.1), some (.f p6.2.2.2), none] rfl ?_
        refine rs_seq ?_
        refine rs_if ?_
        refine rt_or (Z := Unit) ?_
        refine rt_not ?_
        refine rt_val ?_
        refine rd_call hec hE ?_
        refine ra_cons ?_
        refine rd_var rfl ?_
        intro _
        refine ra_nil ?_
        refine ⟨(p6.1), _, rfl, rfl, rfl, fun r9 => ?_⟩
        refine ⟨_, _, rfl, rfl, fun t8 => ?_⟩
        refine ⟨fun z => [some (.f x_thing), none, some (.f p6.1), some (.f p6.2.1), some (.f p6.2.2.1), some (.f p6.2.2.2), none], (), _, _, rfl, ⟨.inr rfl, ⟨.inl rfl, ⟨.inr rfl, ⟨.inr rfl, ⟨.inr rfl, ⟨.inr rfl, ⟨.inl rfl, trivial⟩⟩⟩⟩⟩⟩⟩, fun _ => ?_, fun p7 => ?_⟩
        · refine rt_or (Z := Unit) ?_
          refine rt_not ?_
          refine rt_val ?_
          refine rd_call hec hE ?_
          refine ra_cons ?_
          refine rd_var rfl ?_
          intro _
          refine ra_nil ?_
          refine ⟨(p6.2.1), _, rfl, rfl, rfl, fun r12 => ?_⟩
          refine ⟨_, _, rfl, rfl, fun t11 => ?_⟩
          refine ⟨fun z => [some (.f x_thing), none, some (.f p6.1), some (.f p6.2.1), some (.f p6.2.2.1), some (.f p6.2.2.2), none], (), _, _, rfl, ⟨.inr rfl, ⟨.inl rfl, ⟨.inr rfl, ⟨.inr rfl, ⟨.inr rfl, ⟨.inr rfl, ⟨.inl rfl, trivial⟩⟩⟩⟩⟩⟩⟩, fun _ => ?_, fun p10 => ?_⟩
          · refine rt_or (Z := Unit) ?_
            refine rt_op2B o_gt ?_
            refine rd_cb1 o_len ?_
            refine rd_var rfl ?_
            refine ⟨_, _, rfl, rfl, fun t15 => ?_⟩
            intro _
            refine rd_int ?_
            refine ⟨_, _, _, rfl, rfl, rfl, fun t14 => ?_⟩
            refine ⟨fun z => [some (.f x_thing), none, some (.f p6.1), some (.f p6.2.1), some (.f p6.2.2.1), some (.f p6.2.2.2), none], (), _, _, rfl, ⟨.inr rfl, ⟨.inl rfl, ⟨.inr rfl, ⟨.inr rfl, ⟨.inr rfl, ⟨.inr rfl, ⟨.inl rfl, trivial⟩⟩⟩⟩⟩⟩⟩, fun _ => ?_, fun p13 => ?_⟩
            · refine rt_not ?_
              refine rt_chain o_lt o_lt ?_
              refine rd_int ?_
              intro _
              refine rd_cb1 o_len ?_
              refine rd_var rfl ?_
              refine ⟨_, _, rfl, rfl, fun t19 => ?_⟩
              refine ⟨_, _, _, rfl, rfl, rfl, fun t16 => ⟨_, _, rfl, fun _ _ => ?_, fun c17 => ?_⟩⟩
              · refine rd_int ?_
                exact ⟨_, _, rfl, rfl, rfl, ⟨.inr rfl, ⟨.inl rfl, ⟨.inr rfl, ⟨.inr rfl, ⟨.inr rfl, ⟨.inr rfl, ⟨.inl rfl, trivial⟩⟩⟩⟩⟩⟩⟩⟩
              · exact ⟨_, rfl, ⟨.inr rfl, ⟨.inl rfl, ⟨.inr rfl, ⟨.inr rfl, ⟨.inr rfl, ⟨.inr rfl, ⟨.inl rfl, trivial⟩⟩⟩⟩⟩⟩⟩⟩
            · exact ⟨_, rfl, ⟨.inr rfl, ⟨.inl rfl, ⟨.inr rfl, ⟨.inr rfl, ⟨.inr rfl, ⟨.inr rfl, ⟨.inl rfl, trivial⟩⟩⟩⟩⟩⟩⟩⟩
          · exact ⟨_, rfl, ⟨.inr rfl, ⟨.inl rfl, ⟨.inr rfl, ⟨.inr rfl, ⟨.inr rfl, ⟨.inr rfl, ⟨.inl rfl, trivial⟩⟩⟩⟩⟩⟩⟩⟩
        · refine ⟨_, _, rfl, fun _ => ?_, fun _ => ?_⟩
          · refine rs_ret ?_
            refine rd_bl ?_
            refine ⟨_, rfl, ?_⟩
            exact ⟨_, rfl, rfl, trivial⟩
          · refine rs_next ?_
            refine rs_at [some (.f x_thing), none, some (.f p6.1), some (.f p6.2.1), some (.f p6.2.2.1), some (.f p6.2.2.2), none] rfl ?_
            refine rs_seq ?_
            refine rs_set ?_ rfl (hpv _ (by decide))
            refine rd_fz ?_
            refine rd_op2L o_cat ?_
            refine rd_var rfl ?_
            intro _
            refine rd_var rfl ?_
            refine ⟨_, _, _, rfl, rfl, rfl, fun t20 => ?_⟩
            refine ⟨_, rfl, ?_⟩
            refine ⟨_, rfl, (by show (1 : Nat) < 7; decide), ?_⟩
            refine rs_at [some (.f x_thing), some (.f (.lst t20)), some (.f p6.1), some (.f p6.2.1), some (.f p6.2.2.1), some (.f p6.2.2.2), none] rfl ?_
            refine rs_seq ?_
            refine rs_if ?_
            refine rt_or (Z := Unit) ?_
            refine rt_op2B o_ne ?_
            refine rd_lenSet ?_
            refine rd_var rfl ?_
            refine ⟨_, _, rfl, rfl, fun t23 => ?_⟩
            intro _
            refine rd_cb1 o_len ?_
            refine rd_var rfl ?_
            refine ⟨_, _, rfl, rfl, fun t24 => ?_⟩
            refine ⟨_, _, _, rfl, rfl, rfl, fun t22 => ?_⟩
            refine ⟨fun z => [some (.f x_thing), some (.f (.lst t20)), some (.f p6.1), some (.f p6.2.1), some (.f p6.2.2.1), some (.f p6.2.2.2), none], (), _, _, rfl, ⟨.inr rfl, ⟨.inr rfl, ⟨.inr rfl, ⟨.inr rfl, ⟨.inr rfl, ⟨.inr rfl, ⟨.inl rfl, trivial⟩⟩⟩⟩⟩⟩⟩, fun _ => ?_, fun p21 => ?_⟩
            · refine rt_not ?_
              refine rt_val ?_
              refine rd_call hec hE ?_
              refine ra_cons ?_
              refine rd_var rfl ?_
              intro _
              refine ra_cons ?_
              refine rd_cb1 o_len ?_
              refine rd_var rfl ?_
              refine ⟨_, _, rfl, rfl, fun t27 => ?_⟩
              intro _
              refine ra_nil ?_
              refine ⟨(p6.2.2.1, t27), _, rfl, rfl, rfl, fun r26 => ?_⟩
              refine ⟨_, _, rfl, rfl, fun t25 => ?_⟩
              exact ⟨_, rfl, ⟨.inr rfl, ⟨.inr rfl, ⟨.inr rfl, ⟨.inr rfl, ⟨.inr rfl, ⟨.inr rfl, ⟨.inl rfl, trivial⟩⟩⟩⟩⟩⟩⟩⟩
            · refine ⟨_, _, rfl, fun _ => ?_, fun _ => ?_⟩
              · refine rs_ret ?_
                refine rd_bl ?_
                refine ⟨_, rfl, ?_⟩
                exact ⟨_, rfl, rfl, trivial⟩
              · refine rs_next ?_
                refine rs_at [some (.f x_thing), some (.f (.lst t20)), some (.f p6.1), some (.f p6.2.1), some (.f p6.2.2.1), some (.f p6.2.2.2), none] rfl ?_
                refine rs_seq ?_
                refine rs_if ?_
                refine rt_or (Z := Unit) ?_
                refine rt_not ?_
                refine rt_val ?_
                refine rd_isi .list ?_
                refine rd_var rfl ?_
                refine ⟨_, _, rfl, rfl, fun t30 => ?_⟩
                refine ⟨_, _, rfl, rfl, fun t29 => ?_⟩
                refine ⟨fun z => [some (.f x_thing), some (.f (.lst t20)), some (.f p6.1), some (.f p6.2.1), some (.f p6.2.2.1), some (.f p6.2.2.2), none], (), _, _, rfl, ⟨.inr rfl, ⟨.inr rfl, ⟨.inr rfl, ⟨.inr rfl, ⟨.inr rfl, ⟨.inr rfl, ⟨.inl rfl, trivial⟩⟩⟩⟩⟩⟩⟩, fun _ => ?_, fun p28 => ?_⟩
                · refine rt_not ?_
                  refine rt_chain o_lt o_le ?_
                  refine rd_int ?_
                  intro _
                  refine rd_cb1 o_len ?_
                  refine rd_var rfl ?_
                  refine ⟨_, _, rfl, rfl, fun t34 => ?_⟩
                  refine ⟨_, _, _, rfl, rfl, rfl, fun t31 => ⟨_, _, rfl, fun _ _ => ?_, fun c32 => ?_⟩⟩
                  · refine rd_int ?_
                    exact ⟨_, _, rfl, rfl, rfl, ⟨.inr rfl, ⟨.inr rfl, ⟨.inr rfl, ⟨.inr rfl, ⟨.inr rfl, ⟨.inr rfl, ⟨.inl rfl, trivial⟩⟩⟩⟩⟩⟩⟩⟩
                  · exact ⟨_, rfl, ⟨.inr rfl, ⟨.inr rfl, ⟨.inr rfl, ⟨.inr rfl, ⟨.inr rfl, ⟨.inr rfl, ⟨.inl rfl, trivial⟩⟩⟩⟩⟩⟩⟩⟩
                · refine ⟨_, _, rfl, fun _ => ?_, fun _ => ?_⟩
                  · refine rs_ret ?_
                    refine rd_bl ?_
                    refine ⟨_, rfl, ?_⟩
                    exact ⟨_, rfl, rfl, trivial⟩
                  · refine rs_next ?_
                    refine rs_at [some (.f x_thing), some (.f (.lst t20)), some (.f p6.1), some (.f p6.2.1), some (.f p6.2.2.1), some (.f p6.2.2.2), none] rfl ?_
                    refine rs_seq ?_
                    refine rs_if ?_
                    refine rt_op2B o_ne ?_
                    refine rd_lcR [6] (fun i hi => hi) (all1 (hpv _ (by decide))) ?_
                    refine ri_lst ?_
                    refine rd_var rfl ?_
                    refine ⟨_, _, rfl, rfl, fun ds38 _ => ?_⟩
                    refine ⟨[some (.f x_thing), some (.f (.lst t20)), some (.f p6.1), some (.f p6.2.1), some (.f p6.2.2.1), some (.f p6.2.2.2), none], _, _, rfl, ⟨.inr rfl, ⟨.inr rfl, ⟨.inr rfl, ⟨.inr rfl, ⟨.inr rfl, ⟨.inr rfl, ⟨.inl rfl, trivial⟩⟩⟩⟩⟩⟩⟩, (by first | exact trivial | rfl | exact ⟨rfl, rfl⟩), (all1 rfl), rfl, fun d36 _ _ => ?_, fun ys37 => ?_⟩
                    · refine rg_name (by show (6 : Nat) < 7; decide) rfl (hpv _ (by decide)) ?_
                      refine rt_not ?_
                      refine rt_val ?_
                      refine rd_call hec hE ?_
                      refine ra_cons ?_
                      refine rd_var rfl ?_
                      intro _
                      refine ra_cons ?_
                      refine rd_var rfl ?_
                      intro _
                      refine ra_cons ?_
                      refine rd_cb1 o_len ?_
                      refine rd_var rfl ?_
                      refine ⟨_, _, rfl, rfl, fun t41 => ?_⟩
                      intro _
                      refine ra_nil ?_
                      refine ⟨(d36, (.lst t20), t41), _, rfl, rfl, rfl, fun r40 => ?_⟩
                      refine ⟨_, _, rfl, rfl, fun t39 => ?_⟩
                      refine ⟨_, _, rfl, fun _ => ?_, fun _ => ⟨rfl, ⟨.inr rfl, ⟨.inr rfl, ⟨.inr rfl, ⟨.inr rfl, ⟨.inr rfl, ⟨.inr rfl, ⟨.inl rfl, trivial⟩⟩⟩⟩⟩⟩⟩⟩⟩
                      refine rd_var rfl ?_
                      exact ⟨_, rfl, rfl, ⟨.inr rfl, ⟨.inr rfl, ⟨.inr rfl, ⟨.inr rfl, ⟨.inr rfl, ⟨.inr rfl, ⟨.inl rfl, trivial⟩⟩⟩⟩⟩⟩⟩⟩
                    · intro _
                      refine rd_lst ?_
                      refine ra_nil ?_
                      refine ⟨[], rfl, (by show (0 : Nat) ≤ 1000; decide), ?_⟩
                      refine ⟨_, _, _, rfl, rfl, rfl, fun t35 => ?_⟩
                      refine ⟨_, _, rfl, fun _ => ?_, fun _ => ?_⟩
                      · refine rs_ret ?_
                        refine rd_bl ?_
                        refine ⟨_, rfl, ?_⟩
                        exact ⟨_, rfl, rfl, trivial⟩
                      · refine rs_next ?_
                        refine rs_at [some (.f x_thing), some (.f (.lst t20)), some (.f p6.1), some (.f p6.2.1), some (.f p6.2.2.1), some (.f p6.2.2.2), none] rfl ?_
                        refine rs_ret ?_
                        refine rd_op2B o_nn ?_
                        refine rd_call hec hE ?_
                        refine ra_cons ?_
                        refine rd_var rfl ?_
                        intro _
                        refine ra_cons ?_
                        refine rd_var rfl ?_
                        intro _
                        refine ra_cons ?_
                        refine rd_var rfl ?_
                        intro _
                        refine ra_nil ?_
                        refine ⟨((.lst t20), p6.2.2.1, p6.2.2.2), _, rfl, rfl, rfl, fun r43 => ?_⟩
                        intro _
                        refine rd_non ?_
                        refine ⟨_, _, _, rfl, rfl, rfl, fun t42 => ?_⟩
                        refine ⟨_, rfl, ?_⟩
                        exact ⟨_, rfl, rfl, trivial⟩
theorem ok__law_signs (T : Tx K mg) : FnOk P w K mg base CX0 2 T.a__law_signs T.d__law_signs ["sheet"] (spOf (A := D) (R := D) EC.ec (fun a => [.f a]) (fun a => m__law_signs a) (fun r => .f r) (fun r => [none])) := by
  refine T.F__law_signs.ok sc__law_signs (fun vs H Q E h => ?_) (fun cdv A outer s H vs Q E hr h => ?_)
  · obtain ⟨a, G, w, _, _, hl, _⟩ := h; exact hl
  · refine ⟨_, (pss_cons (ps_set (i := 1) sc__law_signs.nd rfl (by first | exact .inl rfl | exact .inr rfl) (pe_op op_catR (pe_ix (ix_anyK (Kf := K) (by rfl)) (pv 0) pe_int (fun _ _ => rfl)) (pe_ix (ix_anyK (Kf := K) (by rfl)) (pv 0) pe_int (fun _ _ => rfl)))) (pss_cons (ps_set (i := 2) sc__law_signs.nd rfl (by first | exact .inl rfl | exact .inr rfl) (pe_op op_rep (pe_lst (pa_cons pe_non pa_nil)) (pe_callB (call_lenK (Kf := K) (by rfl)) (by rfl) T.n_len PySem.boot_len (pa_cons (pe_ix (ix_anyK (Kf := K) (by rfl)) (pv 0) pe_int (fun _ _ => rfl)) pa_nil)))) (pss_cons (ps_asg (pe_ix (ix_anyK (Kf := K) (by rfl)) (pv 0) pe_int (fun _ _ => rfl)) (pg_sub (pv 2) pe_int set_list)) (pss_cons (ps_set (i := 3) sc__law_signs.nd rfl (by first | exact .inl rfl | exact .inr rfl) (pe_lst (pa_cons pe_int pa_nil))) (pss_cons (ps_set (i := 4) sc__law_signs.nd rfl (by first | exact .inl rfl | exact .inr rfl) pe_int) (pss_cons (ps_while PassesOwn.never (pt_cmpR op_ltA (pv 4) (pe_callB (call_lenK (Kf := K) (by rfl)) (by rfl) T.n_len PySem.boot_len (pa_cons (pv 3) pa_nil)) (nomark _)) (pss_cons (ps_set (i := 5) sc__law_signs.nd rfl (by first | exact .inl rfl | exact .inr rfl) (pe_ix (ix_anyK (Kf := K) (by rfl)) (pv 3) (pv 4) (fun _ _ => rfl))) (pss_cons (ps_set (i := 4) sc__law_signs.nd rfl (by first | exact .inl rfl | exact .inr rfl) (pe_op op_addA (pv 4) pe_int)) (pss_one (ps_for PassesOwn.never rfl (pi_listK (Kf := K) (by rfl) (pe_ix (ix_anyK (Kf := K) (by rfl)) (pe_ix (ix_anyK (Kf := K) (by rfl)) (pv 0) pe_int (fun _ _ => rfl)) (pv 5) (fun _ _ => rfl))) (pg_tupK (Kf := K) (n := 2) (by rfl) rfl (pgs_cons (pg_name (i := 6) sc__law_signs.nd rfl (by first | exact .inl rfl | exact .inr rfl)) (pgs_cons (pg_name (i := 7) sc__law_signs.nd rfl (by first | exact .inl rfl | exact .inr rfl)) pgs_nil))) (pss_cons (ps_set (i := 8) sc__law_signs.nd rfl (by first | exact .inl rfl | exact .inr rfl) (pe_call (ok__law_flip T) (hr.mono (by decide)) (by rfl) T.g__law_flip T.F__law_flip.kp T.b__law_flip .nil (show Passes CX0 _ E from pass0) (pa_cons (pe_ix (ix_anyK (Kf := K) (by rfl)) (pv 2) (pv 5) (fun _ _ => rfl)) (pa_cons (pe_bmK (Kf := K) (by rfl) PySem.F.plainAttrs_list PySem.F.slot_list_index PySem.F.type_list_index (mt_indexK (Kf := K) (by rfl)) (pv 1) (pa_cons (pv 6) pa_nil)) pa_nil)))) (pss_cons (ps_if (pt_cmpR op_isN (pe_ix (ix_anyK (Kf := K) (by rfl)) (pv 2) (pv 7) (fun _ _ => rfl)) pe_non (nomark _)) (pss_cons (ps_asg (pv 8) (pg_sub (pv 2) (pv 7) set_list)) (pss_one (ps_expr (pe_bmK (Kf := K) (by rfl) PySem.F.plainAttrs_list PySem.F.slot_list_append PySem.F.type_list_append mt_append (pv 3) (pa_cons (pv 7) pa_nil))))) pss_nil) (pss_one (ps_if (pt_cmpR (op_neM (hu_64 hr)) (pe_ix (ix_anyK (Kf := K) (by rfl)) (pv 2) (pv 7) (fun _ _ => rfl)) (pv 8) (nomark _)) (pss_one (ps_ret pe_non)) pss_nil))))))))) (pss_one (ps_ret (pv 2))))))))), ?_⟩
    refine fn_body (K := K) [] (fun _ => by show (1 : Nat) ≤ 9; decide) (fun _ => by show ∀ k ∈ ([] : List Nat), k < 1; decide) h (fun F x_sheet hec hE hK hpv => ?_)
    skip
    show RS F [] [some (.f x_sheet), none, none, none, none, none, none, none, none] (m__law_signs x_sheet) _ _ _
    unfold m__law_signs
    refine rs_seq ?_
    refine rs_set ?_ rfl (hpv _ (by decide))
    refine rd_fz ?_
    refine rd_op2L o_cat ?_
    refine rd_op2 o_ix ?_
    refine rd_var rfl ?_
    intro _
    refine rd_int ?_
    refine ⟨_, _, _, rfl, rfl, rfl, fun t2 => ?_⟩
    intro _
    refine rd_op2 o_ix ?_
    refine rd_var rfl ?_
    intro _
    refine rd_int ?_
    refine ⟨_, _, _, rfl, rfl, rfl, fun t3 => ?_⟩
    refine ⟨_, _, _, rfl, rfl, rfl, fun t1 => ?_⟩
    refine ⟨_, rfl, ?_⟩
    refine ⟨_, rfl, (by show (1 : Nat) < 9; decide), ?_⟩
    refine rs_at [some (.f x_sheet), some (.f (.lst t1)), none, none, none, none, none, none, none] rfl ?_
    refine rs_seq ?_
    refine rs_set ?_ rfl (hpv _ (by decide))
    refine rd_rep ?_
    refine rd_lst ?_
    refine ra_cons ?_
    refine rd_non ?_
    intro _
    refine ra_nil ?_
    refine ⟨[.non], rfl, (by show (1 : Nat) ≤ 1000; decide), ?_⟩
    refine ⟨_, rfl, fun _ => ?_⟩
    refine rd_cb1 o_len ?_
    refine rd_op2 o_ix ?_
    refine rd_var rfl ?_
    intro _
    refine rd_int ?_
    refine ⟨_, _, _, rfl, rfl, rfl, fun t6 => ?_⟩
    refine ⟨_, _, rfl, rfl, fun t5 => ?_⟩
    refine ⟨_, _, rfl, rfl, fun t4 => ?_⟩
    refine ⟨_, rfl, (by show (2 : Nat) < 9; decide), ?_⟩
    refine rs_at [some (.f x_sheet), some (.f (.lst t1)), some (.l t4), none, none, none, none, none, none] rfl ?_
    refine rs_seq ?_
    refine rs_setL ?_
    refine rd_op2 o_ix ?_
    refine rd_var rfl ?_
    intro _
    refine rd_int ?_
    refine ⟨_, _, _, rfl, rfl, rfl, fun t8 => ?_⟩
    refine ⟨_, rfl, fun _ => ?_⟩
    refine rd_ali rfl ?_
    refine ⟨2, rfl, fun _ => ?_⟩
    refine rd_int ?_
    refine ⟨_, _, _, rfl, rfl, rfl, fun t7 => ?_⟩
    refine rs_at [some (.f x_sheet), some (.f (.lst t1)), some (.l t7), none, none, none, none, none, none] rfl ?_
    refine rs_seq ?_
    refine rs_set ?_ rfl (hpv _ (by decide))
    refine rd_lst ?_
    refine ra_cons ?_
    refine rd_int ?_
    intro _
    refine ra_nil ?_
    refine ⟨[(.int 0)], rfl, (by show (1 : Nat) ≤ 1000; decide), ?_⟩
    refine ⟨_, rfl, (by show (3 : Nat) < 9; decide), ?_⟩
    refine rs_at [some (.f x_sheet), some (.f (.lst t1)), some (.l t7), some (.l [(.int 0)]), none, none, none, none, none] rfl ?_
    refine rs_seq ?_
    refine rs_set ?_ rfl (hpv _ (by decide))
    refine rd_int ?_
    refine ⟨_, rfl, (by show (4 : Nat) < 9; decide), ?_⟩
    refine rs_at [some (.f x_sheet), some (.f (.lst t1)), some (.l t7), some (.l [(.int 0)]), some (.f (.int 0)), none, none, none, none] rfl ?_
    refine rs_seq ?_
    refine rs_while FU (fun z9 => [some (.f x_sheet), some (.f (.lst t1)), some (.l z9.2.1), some (.l z9.2.2), some (.f z9.1), none, none, none, none]) _ _ _ _ rfl ⟨.inr rfl, ⟨.inr rfl, ⟨.inr rfl, ⟨.inr rfl, ⟨.inr rfl, ⟨.inl rfl, ⟨.inl rfl, ⟨.inl rfl, ⟨.inl rfl, trivial⟩⟩⟩⟩⟩⟩⟩⟩⟩ (fun z9 => ?_) (fun z9 => ?_) (fun z9 => ?_)
    · refine rt_op2B o_lt ?_
      refine rd_var rfl ?_
      intro _
      refine rd_cb1 o_len ?_
      refine rd_ali rfl ?_
      refine ⟨_, _, rfl, rfl, fun t11 => ?_⟩
      refine ⟨_, _, _, rfl, rfl, rfl, fun t10 => ?_⟩
      exact ⟨rfl, ⟨.inr rfl, ⟨.inr rfl, ⟨.inr rfl, ⟨.inr rfl, ⟨.inr rfl, ⟨.inl rfl, ⟨.inl rfl, ⟨.inl rfl, ⟨.inl rfl, trivial⟩⟩⟩⟩⟩⟩⟩⟩⟩⟩
    · refine rs_seq ?_
      refine rs_set ?_ rfl (hpv _ (by decide))
      refine rd_op2 o_ix ?_
      refine rd_ali rfl ?_
      intro _
      refine rd_var rfl ?_
      refine ⟨_, _, _, rfl, rfl, rfl, fun t12 => ?_⟩
      refine ⟨_, rfl, (by show (5 : Nat) < 9; decide), ?_⟩
      refine rs_at [some (.f x_sheet), some (.f (.lst t1)), some (.l z9.2.1), some (.l z9.2.2), some (.f z9.1), some (.f t12), none, none, none] rfl ?_
      refine rs_seq ?_
      refine rs_set ?_ rfl (hpv _ (by decide))
      refine rd_op2 o_add ?_
      refine rd_var rfl ?_
      intro _
      refine rd_int ?_
      refine ⟨_, _, _, rfl, rfl, rfl, fun t13 => ?_⟩
      refine ⟨_, rfl, (by show (4 : Nat) < 9; decide), ?_⟩
      refine rs_at [some (.f x_sheet), some (.f (.lst t1)), some (.l z9.2.1), some (.l z9.2.2), some (.f t13), some (.f t12), none, none, none] rfl ?_
      refine rs_for (Z := ((List D) × (List D))) (R' := D) [6, 7] ?_
      refine ri_lst ?_
      refine rd_op2 o_ix ?_
      refine rd_op2 o_ix ?_
      refine rd_var rfl ?_
      intro _
      refine rd_int ?_
      refine ⟨_, _, _, rfl, rfl, rfl, fun t18 => ?_⟩
      intro _
      refine rd_var rfl ?_
      refine ⟨_, _, _, rfl, rfl, rfl, fun t17 => ?_⟩
      refine ⟨_, _, rfl, rfl, fun ds16 _ => ?_⟩
      refine ⟨fun z15 => [some (.f x_sheet), some (.f (.lst t1)), some (.l z15.1), some (.l z15.2), some (.f t13), some (.f t12), none, none, none], _, _, _, rfl, ⟨.inr rfl, ⟨.inr rfl, ⟨.inr rfl, ⟨.inr rfl, ⟨.inr rfl, ⟨.inr rfl, ⟨.inl rfl, ⟨.inl rfl, ⟨.inl rfl, trivial⟩⟩⟩⟩⟩⟩⟩⟩⟩, fun _ => (by first | exact trivial | rfl | exact ⟨rfl, rfl⟩), fun z15 d14 => ?_, fun z15 => ?_⟩
      · refine rg_n2 ⟨_, rfl, fun p19 => ?_⟩
        refine rgs_cons (by show (6 : Nat) < 9; decide) rfl (hpv _ (by decide)) ?_
        refine rgs_cons (by show (7 : Nat) < 9; decide) rfl (hpv _ (by decide)) ?_
        refine rgs_nil ?_
        refine rs_at [some (.f x_sheet), some (.f (.lst t1)), some (.l z15.1), some (.l z15.2), some (.f t13), some (.f t12), some (.f p19.1), some (.f p19.2), none] rfl ?_
        refine rs_seq ?_
        refine rs_set ?_ rfl (hpv _ (by decide))
        refine rd_call hec hE ?_
        refine ra_cons ?_
        refine rd_op2 o_ix ?_
        refine rd_ali rfl ?_
        intro _
        refine rd_var rfl ?_
        refine ⟨_, _, _, rfl, rfl, rfl, fun t21 => ?_⟩
        intro _
        refine ra_cons ?_
        refine rd_idx ?_
        refine rd_var rfl ?_
        refine ⟨_, _, rfl, rfl, fun t23 _ => ?_⟩
        refine rd_var rfl ?_
        refine ⟨_, _, _, rfl, rfl, rfl, fun t22 => ?_⟩
        intro _
        refine ra_nil ?_
        refine ⟨(t21, t22), _, rfl, rfl, rfl, fun r20 => ?_⟩
        refine ⟨_, rfl, (by show (8 : Nat) < 9; decide), ?_⟩
        refine rs_at [some (.f x_sheet), some (.f (.lst t1)), some (.l z15.1), some (.l z15.2), some (.f t13), some (.f t12), some (.f p19.1), some (.f p19.2), some (.f r20)] rfl ?_
        refine rs_seq ?_
        refine rs_join (Z := ((List D) × (List D))) (fun z28 => [some (.f x_sheet), some (.f (.lst t1)), some (.l z28.1), some (.l z28.2), some (.f t13), some (.f t12), some (.f p19.1), some (.f p19.2), some (.f r20)]) _ _ rfl ?_ (fun z28 => ?_)
        · refine rs_if ?_
          refine rt_op2B o_isn ?_
          refine rd_op2 o_ix ?_
          refine rd_ali rfl ?_
          intro _
          refine rd_var rfl ?_
          refine ⟨_, _, _, rfl, rfl, rfl, fun t30 => ?_⟩
          intro _
          refine rd_non ?_
          refine ⟨_, _, _, rfl, rfl, rfl, fun t29 => ?_⟩
          refine ⟨_, _, rfl, fun _ => ?_, fun _ => ?_⟩
          · refine rs_seq ?_
            refine rs_setL ?_
            refine rd_var rfl ?_
            refine ⟨_, rfl, fun _ => ?_⟩
            refine rd_ali rfl ?_
            refine ⟨2, rfl, fun _ => ?_⟩
            refine rd_var rfl ?_
            refine ⟨_, _, _, rfl, rfl, rfl, fun t31 => ?_⟩
            refine rs_at [some (.f x_sheet), some (.f (.lst t1)), some (.l t31), some (.l z15.2), some (.f t13), some (.f t12), some (.f p19.1), some (.f p19.2), some (.f r20)] rfl ?_
            refine rs_drop ?_
            refine rd_append ?_
            refine rd_ali rfl ?_
            refine ⟨3, _, rfl, rfl, fun _ => ?_⟩
            refine rd_var rfl ?_
            refine ⟨_, _, _, rfl, rfl, rfl, fun t32 => ?_⟩
            exact ⟨_, rfl, ⟨.inr rfl, ⟨.inr rfl, ⟨.inr rfl, ⟨.inr rfl, ⟨.inr rfl, ⟨.inr rfl, ⟨.inr rfl, ⟨.inr rfl, ⟨.inr rfl, trivial⟩⟩⟩⟩⟩⟩⟩⟩⟩⟩
          · refine rs_next ?_
            exact ⟨_, rfl, ⟨.inr rfl, ⟨.inr rfl, ⟨.inr rfl, ⟨.inr rfl, ⟨.inr rfl, ⟨.inr rfl, ⟨.inr rfl, ⟨.inr rfl, ⟨.inr rfl, trivial⟩⟩⟩⟩⟩⟩⟩⟩⟩⟩
        · refine rs_at [some (.f x_sheet), some (.f (.lst t1)), some (.l z28.1), some (.l z28.2), some (.f t13), some (.f t12), some (.f p19.1), some (.f p19.2), some (.f r20)] rfl ?_
          refine rs_if ?_
          refine rt_op2B o_ne ?_
          refine rd_op2 o_ix ?_
          refine rd_ali rfl ?_
          intro _
          refine rd_var rfl ?_
          refine ⟨_, _, _, rfl, rfl, rfl, fun t34 => ?_⟩
          intro _
          refine rd_var rfl ?_
          refine ⟨_, _, _, rfl, rfl, rfl, fun t33 => ?_⟩
          refine ⟨_, _, rfl, fun _ => ?_, fun _ => ?_⟩
          · refine rs_ret ?_
            refine rd_non ?_
            refine ⟨_, rfl, ?_⟩
            exact ⟨_, rfl, ⟨_, rfl, ⟨_, rfl, rfl, trivial⟩⟩⟩
          · refine rs_next ?_
            exact ⟨_, rfl, ⟨.inr rfl, ⟨.inr rfl, ⟨.inr rfl, ⟨.inr rfl, ⟨.inr rfl, ⟨.inr rfl, ⟨.inl rfl, ⟨.inl rfl, ⟨.inl rfl, trivial⟩⟩⟩⟩⟩⟩⟩⟩⟩⟩
      · exact ⟨_, rfl, ⟨.inr rfl, ⟨.inr rfl, ⟨.inr rfl, ⟨.inr rfl, ⟨.inr rfl, ⟨.inl rfl, ⟨.inl rfl, ⟨.inl rfl, ⟨.inl rfl, trivial⟩⟩⟩⟩⟩⟩⟩⟩⟩⟩
    · refine rs_at [some (.f x_sheet), some (.f (.lst t1)), some (.l z9.2.1), some (.l z9.2.2), some (.f z9.1), none, none, none, none] rfl ?_
      refine rs_onN ?_
      refine rs_ret ?_
      refine rd_frz rfl ?_
      refine ⟨_, rfl, ?_⟩
      exact ⟨_, rfl, rfl, trivial⟩
theorem ok_law (T : Tx K mg) : FnOk P w K mg base CX0 5 T.a_law T.d_law ["script"] (spOf (A := D) (R := D) EC.ec (fun a => [.f a]) (fun a => m_law a) (fun r => .f r) (fun r => [none])) := by
  refine T.F_law.ok sc_law (fun vs H Q E h => ?_) (fun cdv A outer s H vs Q E hr h => ?_)
  · obtain ⟨a, G, w, _, _, hl, _⟩ := h; exact hl
  · refine ⟨_, (pss_cons (ps_for PassesOwn.never rfl (pi_range1 (by rfl) T.n_range (pa_cons (pe_callB (call_min2 rfl) (by rfl) T.n_min PyProof.Rows.boot_min (pa_cons (pe_callB (call_max2 rfl) (by rfl) T.n_max PyProof.Rows.boot_max (pa_cons (pe_callB (call_lenK (Kf := K) (by rfl)) (by rfl) T.n_len PySem.boot_len (pa_cons (pv 0) pa_nil)) (pa_cons pe_int pa_nil))) (pa_cons pe_int pa_nil))) pa_nil)) (pg_name (i := 1) sc_law.nd rfl (by first | exact .inl rfl | exact .inr rfl)) (pss_cons (ps_set (i := 2) sc_law.nd rfl (by first | exact .inl rfl | exact .inr rfl) (pe_call (ok__law_store T) (hr.mono (by decide)) (by rfl) T.g__law_store T.F__law_store.kp T.b__law_store .nil (show Passes CX0 _ E from pass0) (pa_cons (pe_call (ok__law_cell T) (hr.mono (by decide)) (by rfl) T.g__law_cell T.F__law_cell.kp T.b__law_cell .nil (show Passes CX0 _ E from pass0) (pa_cons (pv 0) (pa_cons (pv 1) pa_nil))) pa_nil))) (pss_cons (ps_set (i := 3) sc_law.nd rfl (by first | exact .inl rfl | exact .inr rfl) (pe_call (ok__law_sheet T) (hr.mono (by decide)) (by rfl) T.g__law_sheet T.F__law_sheet.kp T.b__law_sheet .nil (show Passes CX0 _ E from pass0) (pa_cons (pv 2) (pa_cons (pe_ix (ix_anyK (Kf := K) (by rfl)) (pe_lst (pa_cons pe_int (pa_cons pe_int (pa_cons pe_int (pa_cons pe_int (pa_cons pe_int (pa_cons pe_int (pa_cons pe_int (pa_cons pe_int pa_nil))))))))) (pe_call (ok__law_take T) (hr.mono (by decide)) (by rfl) T.g__law_take T.F__law_take.kp T.b__law_take .nil (show Passes CX0 _ E from pass0) (pa_cons (pv 2) (pa_cons pe_int pa_nil))) (fun _ _ => rfl)) pa_nil)))) (pss_cons (ps_if (pt_cmpR op_notBl (pe_call (ok_is_sheet T) (hr.mono (by decide)) (by rfl) T.g_is_sheet T.F_is_sheet.kp T.b_is_sheet .nil (show Passes CX0 _ E from pass0) (pa_cons (pv 3) pa_nil)) pe_bl (nomark _)) (pss_one (ps_ret pe_bl)) pss_nil) (pss_cons (ps_expr (pe_call (ok__law_led_elsewhere T) (hr.mono (by decide)) (by rfl) T.g__law_led_elsewhere T.F__law_led_elsewhere.kp T.b__law_led_elsewhere .nil (show Passes CX0 _ E from pass0) (pa_cons (pv 2) (pa_cons (pe_ix (ix_anyK (Kf := K) (by rfl)) (pv 3) pe_int (fun _ _ => rfl)) pa_nil)))) (pss_cons (ps_set (i := 4) sc_law.nd rfl (by first | exact .inl rfl | exact .inr rfl) (pe_call (ok__law_sheet_copy T) (hr.mono (by decide)) (by rfl) T.g__law_sheet_copy T.F__law_sheet_copy.kp T.b__law_sheet_copy .nil (show Passes CX0 _ E from pass0) (pa_cons (pv 3) pa_nil))) (pss_cons (ps_set (i := 5) sc_law.nd rfl (by first | exact .inl rfl | exact .inr rfl) (pe_cmpR op_notN (pe_call (ok__law_signs T) (hr.mono (by decide)) (by rfl) T.g__law_signs T.F__law_signs.kp T.b__law_signs .nil (show Passes CX0 _ E from pass0) (pa_cons (pv 3) pa_nil)) pe_non (nomark _))) (pss_one (ps_for PassesOwn.never rfl (pi_range1 (by rfl) T.n_range (pa_cons pe_int pa_nil)) (pg_name (i := 6) sc_law.nd rfl (by first | exact .inl rfl | exact .inr rfl)) (pss_cons (ps_set (i := 7) sc_law.nd rfl (by first | exact .inl rfl | exact .inr rfl) (pe_call (ok_is_sheet T) (hr.mono (by decide)) (by rfl) T.g_is_sheet T.F_is_sheet.kp T.b_is_sheet .nil (show Passes CX0 _ E from pass0) (pa_cons (pv 4) pa_nil))) (pss_one (ps_if (pw_or (pt_not (pt_val (pe_callB (call_isiK' (Kf := K) (by rfl)) (by rfl) T.n_isinstance PyProof.Rows.boot_isinstance (pa_cons (pv 7) (pa_cons (pe_bltn (v := .ty "bool") (u := .type "bool") (by rfl) T.n_bool (by decide +kernel) rfl) pa_nil))))) (pw_or (pt_cmpR (op_neM (hu_64 hr)) (pv 7) (pv 5) (nomark _)) (pw_or1 (pt_cmpR (op_neM (hu_64 hr)) (pv 4) (pv 3) (nomark _))))).pt (pss_one (ps_ret pe_bl)) pss_nil)))))))))))) (pss_one (ps_ret pe_bl))), ?_⟩
    refine fn_body (K := K) [] (fun _ => by show (1 : Nat) ≤ 8; decide) (fun _ => by show ∀ k ∈ ([] : List Nat), k < 1; decide) h (fun F x_script hec hE hK hpv => ?_)
    skip
    show RS F [] [some (.f x_script), none, none, none, none, none, none, none] (m_law x_script) _ _ _
    unfold m_law
    refine rs_seq ?_
    refine rs_for (Z := Unit) (R' := D) [1] ?_
    refine ri_range1 ?_
    refine rd_cb2 o_min ?_
    refine rd_cb2 o_max ?_
    refine rd_cb1 o_len ?_
    refine rd_var rfl ?_
    refine ⟨_, _, rfl, rfl, fun t6 => ?_⟩
    intro _
    refine rd_int ?_
    refine ⟨_, _, _, rfl, rfl, rfl, fun t5 => ?_⟩
    intro _
    refine rd_int ?_
    refine ⟨_, _, _, rfl, rfl, rfl, fun t4 => ?_⟩
    refine ⟨_, _, rfl, rfl, fun ds3 => ?_⟩
    refine ⟨fun z2 => [some (.f x_script), none, none, none, none, none, none, none], _, _, _, rfl, ⟨.inr rfl, ⟨.inl rfl, ⟨.inl rfl, ⟨.inl rfl, ⟨.inl rfl, ⟨.inl rfl, ⟨.inl rfl, ⟨.inl rfl, trivial⟩⟩⟩⟩⟩⟩⟩⟩, fun _ => (by first | exact trivial | rfl | exact ⟨rfl, rfl⟩), fun z2 d1 => ?_, fun z2 => ?_⟩
    · refine rg_name (by show (1 : Nat) < 8; decide) rfl (hpv _ (by decide)) ?_
      refine rs_at [some (.f x_script), some (.f d1), none, none, none, none, none, none] rfl ?_
      refine rs_seq ?_
      refine rs_set ?_ rfl (hpv _ (by decide))
      refine rd_call hec hE ?_
      refine ra_cons ?_
      refine rd_call hec hE ?_
      refine ra_cons ?_
      refine rd_var rfl ?_
      intro _
      refine ra_cons ?_
      refine rd_var rfl ?_
      intro _
      refine ra_nil ?_
      refine ⟨(x_script, d1), _, rfl, rfl, rfl, fun r8 => ?_⟩
      intro _
      refine ra_nil ?_
      refine ⟨(r8), _, rfl, rfl, rfl, fun r7 => ?_⟩
      refine ⟨_, rfl, (by show (2 : Nat) < 8; decide), ?_⟩
      refine rs_at [some (.f x_script), some (.f d1), some (.l r7), none, none, none, none, none] rfl ?_
      refine rs_seq ?_
      refine rs_set ?_ rfl (hpv _ (by decide))
      refine rd_call hec hE ?_
      refine ra_cons ?_
      refine rd_ali rfl ?_
      intro _
      refine ra_cons ?_
      refine rd_op2 o_ix ?_
      refine rd_lst ?_
      refine ra_cons ?_
      refine rd_int ?_
      intro _
      refine ra_cons ?_
      refine rd_int ?_
      intro _
      refine ra_cons ?_
      refine rd_int ?_
      intro _
      refine ra_cons ?_
      refine rd_int ?_
      intro _
      refine ra_cons ?_
      refine rd_int ?_
      intro _
      refine ra_cons ?_
      refine rd_int ?_
      intro _
      refine ra_cons ?_
      refine rd_int ?_
      intro _
      refine ra_cons ?_
      refine rd_int ?_
      intro _
      refine ra_nil ?_
      refine ⟨[(.int 12), (.int 12), (.int 12), (.int 12), (.int 12), (.int 12), (.int 12), (.int 40)], rfl, (by show (8 : Nat) ≤ 1000; decide), ?_⟩
      intro _
      refine rd_call hec hE ?_
      refine ra_cons ?_
      refine rd_ali rfl ?_
      intro _
      refine ra_cons ?_
      refine rd_int ?_
      intro _
      refine ra_nil ?_
      refine ⟨(r7, (.int 8)), _, rfl, rfl, rfl, fun r11 => ?_⟩
      refine ⟨_, _, _, rfl, rfl, rfl, fun t10 => ?_⟩
      intro _
      refine ra_nil ?_
      refine ⟨(r11.2, t10), _, rfl, rfl, rfl, fun r9 => ?_⟩
      refine ⟨_, rfl, (by show (3 : Nat) < 8; decide), ?_⟩
      refine rs_at [some (.f x_script), some (.f d1), some (.l r9.2), some (shPT [0, 0, 0, 2] r9.1), none, none, none, none] rfl ?_
      refine rs_onP (i := 3) (ks := [0, 0, 0, 2]) rfl rfl (fun ds12 => ?_) ?_
      · refine rs_at [some (.f x_script), some (.f d1), some (.l r9.2), some (.tt (shP [0, 0, 0, 2] ds12)), none, none, none, none] rfl ?_
        refine rs_seq ?_
        refine rs_if ?_
        refine rt_op2B o_notb ?_
        refine rd_callC [3] hec hE ?_
        refine ra_cons ?_
        refine rd_ali rfl ?_
        intro _
        refine ra_nil ?_
        refine ⟨((VL.T.er (.tt (shP [0, 0, 0, 2] ds12)))), _, [.own (.f (VL.T.er (.tt (shP [0, 0, 0, 2] ds12))))], rfl, ⟨(by decide), ⟨_, rfl, rfl⟩, trivial⟩, rfl, fun r15 => ?_⟩
        intro _
        refine rd_bl ?_
        refine ⟨_, _, _, rfl, rfl, rfl, fun t13 => ?_⟩
        refine ⟨_, _, rfl, fun _ => ?_, fun _ => ?_⟩
        · refine rs_ret ?_
          refine rd_bl ?_
          refine ⟨_, rfl, ?_⟩
          exact ⟨_, rfl, ⟨_, rfl, rfl, trivial⟩⟩
        · refine rs_next ?_
          refine rs_at [some (.f x_script), some (.f d1), some (.l r9.2), some (.tt (shP [0, 0, 0, 2] ds12)), none, none, none, none] rfl ?_
          refine rs_seq ?_
          refine rs_drop ?_
          refine rd_callP (i := 2) (p := 3) (n := 3) (ks := [0, 0, 0, 2]) (ds := ds12) hec hE rfl rfl (by decide) rfl (fun j hj => by simp at hj) (fun k v e => by rw [hpv k (by simp)] at e; cases e) ⟨_, rfl, fun ls18 => ⟨(r9.2, ls18), _, rfl, rfl, fun r17 => ⟨_, _, rfl, ?_⟩⟩⟩
          refine rs_at [some (.f x_script), some (.f d1), some (.l r17.2.1), some (.tt (shP [0, 0, 0, 2] (ds12.set 3 (llD r17.2.2)))), none, none, none, none] rfl ?_
          refine rs_seq ?_
          refine rs_set ?_ rfl (hpv _ (by decide))
          refine rd_call hec hE ?_
          refine ra_cons ?_
          refine rd_frz rfl ?_
          intro _
          refine ra_nil ?_
          refine ⟨((VL.T.er (.tt (shP [0, 0, 0, 2] (ds12.set 3 (llD r17.2.2)))))), _, rfl, rfl, rfl, fun r19 => ?_⟩
          refine ⟨_, rfl, (by show (4 : Nat) < 8; decide), ?_⟩
          refine rs_at [some (.f x_script), some (.f d1), some (.l r17.2.1), some (.f (VL.T.er (.tt (shP [0, 0, 0, 2] (ds12.set 3 (llD r17.2.2)))))), some (.f r19), none, none, none] rfl ?_
          refine rs_seq ?_
          refine rs_set ?_ rfl (hpv _ (by decide))
          refine rd_op2B o_nn ?_
          refine rd_call hec hE ?_
          refine ra_cons ?_
          refine rd_var rfl ?_
          intro _
          refine ra_nil ?_
          refine ⟨((VL.T.er (.tt (shP [0, 0, 0, 2] (ds12.set 3 (llD r17.2.2)))))), _, rfl, rfl, rfl, fun r21 => ?_⟩
          intro _
          refine rd_non ?_
          refine ⟨_, _, _, rfl, rfl, rfl, fun t20 => ?_⟩
          refine ⟨_, rfl, (by show (5 : Nat) < 8; decide), ?_⟩
          refine rs_at [some (.f x_script), some (.f d1), some (.l r17.2.1), some (.f (VL.T.er (.tt (shP [0, 0, 0, 2] (ds12.set 3 (llD r17.2.2)))))), some (.f r19), some (.f (.bl t20)), none, none] rfl ?_
          refine rs_for (Z := Unit) (R' := D) [6] ?_
          refine ri_range1 ?_
          refine rd_int ?_
          refine ⟨_, _, rfl, rfl, fun ds24 => ?_⟩
          refine ⟨fun z23 => [some (.f x_script), some (.f d1), some (.l r17.2.1), some (.f (VL.T.er (.tt (shP [0, 0, 0, 2] (ds12.set 3 (llD r17.2.2)))))), some (.f r19), some (.f (.bl t20)), none, none], _, _, _, rfl, ⟨.inr rfl, ⟨.inr rfl, ⟨.inr rfl, ⟨.inr rfl, ⟨.inr rfl, ⟨.inr rfl, ⟨.inl rfl, ⟨.inl rfl, trivial⟩⟩⟩⟩⟩⟩⟩⟩, fun _ => (by first | exact trivial | rfl | exact ⟨rfl, rfl⟩), fun z23 d22 => ?_, fun z23 => ?_⟩
          · refine rg_name (by show (6 : Nat) < 8; decide) rfl (hpv _ (by decide)) ?_
            refine rs_at [some (.f x_script), some (.f d1), some (.l r17.2.1), some (.f (VL.T.er (.tt (shP [0, 0, 0, 2] (ds12.set 3 (llD r17.2.2)))))), some (.f r19), some (.f (.bl t20)), some (.f d22), none] rfl ?_
            refine rs_seq ?_
            refine rs_set ?_ rfl (hpv _ (by decide))
            refine rd_call hec hE ?_
            refine ra_cons ?_
            refine rd_var rfl ?_
            intro _
            refine ra_nil ?_
            refine ⟨(r19), _, rfl, rfl, rfl, fun r25 => ?_⟩
            refine ⟨_, rfl, (by show (7 : Nat) < 8; decide), ?_⟩
            refine rs_at [some (.f x_script), some (.f d1), some (.l r17.2.1), some (.f (VL.T.er (.tt (shP [0, 0, 0, 2] (ds12.set 3 (llD r17.2.2)))))), some (.f r19), some (.f (.bl t20)), some (.f d22), some (.f r25)] rfl ?_
            refine rs_if ?_
            refine rt_or (Z := Unit) ?_
            refine rt_not ?_
            refine rt_val ?_
            refine rd_isi .bool ?_
            refine rd_var rfl ?_
            refine ⟨_, _, rfl, rfl, fun t28 => ?_⟩
            refine ⟨_, _, rfl, rfl, fun t27 => ?_⟩
            refine ⟨fun z => [some (.f x_script), some (.f d1), some (.l r17.2.1), some (.f (VL.T.er (.tt (shP [0, 0, 0, 2] (ds12.set 3 (llD r17.2.2)))))), some (.f r19), some (.f (.bl t20)), some (.f d22), some (.f r25)], (), _, _, rfl, ⟨.inr rfl, ⟨.inr rfl, ⟨.inr rfl, ⟨.inr rfl, ⟨.inr rfl, ⟨.inr rfl, ⟨.inr rfl, ⟨.inr rfl, trivial⟩⟩⟩⟩⟩⟩⟩⟩, fun _ => ?_, fun p26 => ?_⟩
            · refine rt_or (Z := Unit) ?_
              refine rt_op2B o_ne ?_
              refine rd_var rfl ?_
              intro _
              refine rd_var rfl ?_
              refine ⟨_, _, _, rfl, rfl, rfl, fun t30 => ?_⟩
              refine ⟨fun z => [some (.f x_script), some (.f d1), some (.l r17.2.1), some (.f (VL.T.er (.tt (shP [0, 0, 0, 2] (ds12.set 3 (llD r17.2.2)))))), some (.f r19), some (.f (.bl t20)), some (.f d22), some (.f r25)], (), _, _, rfl, ⟨.inr rfl, ⟨.inr rfl, ⟨.inr rfl, ⟨.inr rfl, ⟨.inr rfl, ⟨.inr rfl, ⟨.inr rfl, ⟨.inr rfl, trivial⟩⟩⟩⟩⟩⟩⟩⟩, fun _ => ?_, fun p29 => ?_⟩
              · refine rt_op2B o_ne ?_
                refine rd_var rfl ?_
                intro _
                refine rd_var rfl ?_
                refine ⟨_, _, _, rfl, rfl, rfl, fun t31 => ?_⟩
                exact ⟨_, rfl, ⟨.inr rfl, ⟨.inr rfl, ⟨.inr rfl, ⟨.inr rfl, ⟨.inr rfl, ⟨.inr rfl, ⟨.inr rfl, ⟨.inr rfl, trivial⟩⟩⟩⟩⟩⟩⟩⟩⟩
              · exact ⟨_, rfl, ⟨.inr rfl, ⟨.inr rfl, ⟨.inr rfl, ⟨.inr rfl, ⟨.inr rfl, ⟨.inr rfl, ⟨.inr rfl, ⟨.inr rfl, trivial⟩⟩⟩⟩⟩⟩⟩⟩⟩
            · refine ⟨_, _, rfl, fun _ => ?_, fun _ => ?_⟩
              · refine rs_ret ?_
                refine rd_bl ?_
                refine ⟨_, rfl, ?_⟩
                exact ⟨_, rfl, ⟨_, rfl, ⟨_, rfl, rfl, trivial⟩⟩⟩
              · refine rs_next ?_
                exact ⟨_, rfl, ⟨.inr rfl, ⟨.inr rfl, ⟨.inr rfl, ⟨.inr rfl, ⟨.inr rfl, ⟨.inr rfl, ⟨.inl rfl, ⟨.inl rfl, trivial⟩⟩⟩⟩⟩⟩⟩⟩⟩
          · exact ⟨_, rfl, ⟨.inr rfl, ⟨.inl rfl, ⟨.inl rfl, ⟨.inl rfl, ⟨.inl rfl, ⟨.inl rfl, ⟨.inl rfl, ⟨.inl rfl, trivial⟩⟩⟩⟩⟩⟩⟩⟩⟩
      · refine rs_at [some (.f x_script), some (.f d1), some (.l r9.2), some (.f r9.1), none, none, none, none] rfl ?_
        refine rs_seq ?_
        refine rs_if ?_
        refine rt_op2B o_notb ?_
        refine rd_call hec hE ?_
        refine ra_cons ?_
        refine rd_var rfl ?_
        intro _
        refine ra_nil ?_
        refine ⟨(r9.1), _, rfl, rfl, rfl, fun r33 => ?_⟩
        intro _
        refine rd_bl ?_
        refine ⟨_, _, _, rfl, rfl, rfl, fun t32 => ?_⟩
        refine ⟨_, _, rfl, fun _ => ?_, fun _ => ?_⟩
        · refine rs_ret ?_
          refine rd_bl ?_
          refine ⟨_, rfl, ?_⟩
          exact ⟨_, rfl, ⟨_, rfl, rfl, trivial⟩⟩
        · refine rs_next ?_
          refine rs_at [some (.f x_script), some (.f d1), some (.l r9.2), some (.f r9.1), none, none, none, none] rfl ?_
          refine rs_seq ?_
          refine rs_drop ?_
          exact rd_never rfl
    · refine rs_at [some (.f x_script), none, none, none, none, none, none, none] rfl ?_
      refine rs_onN ?_
      refine rs_ret ?_
      refine rd_bl ?_
      refine ⟨_, rfl, ?_⟩
      exact ⟨_, rfl, rfl, trivial⟩
end
theorem all_mk {l : PySem.W.OpenLaw} {w : World} {K : PySem.W.Frag} {h : Heap} {mg : Str → Option Value} {fa : Addr} (X : K.In h) (G : h.Ns mainGlobals mg) (hfa : mg "law" = some (.ref fa))
    {f0 : Addr} {od0 an0 : Option Addr} {sl0 : Array (Option Value)} {oc0 kV0 dc0 pm0 cd0 ct0 : Value}
    (a0 : PySem.W.nsIn K mainGlobals "_law_store" = some (some (.ref f0))) (l0 : K.lookup f0 = some ⟨oc0, od0, .func (PySem.W.fnOf "_law_store" "_law_store" (defArgs s__law_store) (defBody s__law_store) (defScope s__law_store) .none kV0 dc0 pm0 an0 cd0 ct0), sl0⟩) (c0 : PySem.W.codeIn K cd0 "_law_store" = true) (k0 : PySem.W.keepIn K (.ref f0) = true)
    {f1 : Addr} {od1 an1 : Option Addr} {sl1 : Array (Option Value)} {oc1 kV1 dc1 pm1 cd1 ct1 : Value}
    (a1 : PySem.W.nsIn K mainGlobals "_law_take" = some (some (.ref f1))) (l1 : K.lookup f1 = some ⟨oc1, od1, .func (PySem.W.fnOf "_law_take" "_law_take" (defArgs s__law_take) (defBody s__law_take) (defScope s__law_take) .none kV1 dc1 pm1 an1 cd1 ct1), sl1⟩) (c1 : PySem.W.codeIn K cd1 "_law_take" = true) (k1 : PySem.W.keepIn K (.ref f1) = true)
    {f2 : Addr} {od2 an2 : Option Addr} {sl2 : Array (Option Value)} {oc2 kV2 dc2 pm2 cd2 ct2 : Value}
    (a2 : PySem.W.nsIn K mainGlobals "_law_some_names" = some (some (.ref f2))) (l2 : K.lookup f2 = some ⟨oc2, od2, .func (PySem.W.fnOf "_law_some_names" "_law_some_names" (defArgs s__law_some_names) (defBody s__law_some_names) (defScope s__law_some_names) .none kV2 dc2 pm2 an2 cd2 ct2), sl2⟩) (c2 : PySem.W.codeIn K cd2 "_law_some_names" = true) (k2 : PySem.W.keepIn K (.ref f2) = true)
    {f3 : Addr} {od3 an3 : Option Addr} {sl3 : Array (Option Value)} {oc3 kV3 dc3 pm3 cd3 ct3 : Value}
    (a3 : PySem.W.nsIn K mainGlobals "_law_flip" = some (some (.ref f3))) (l3 : K.lookup f3 = some ⟨oc3, od3, .func (PySem.W.fnOf "_law_flip" "_law_flip" (defArgs s__law_flip) (defBody s__law_flip) (defScope s__law_flip) .none kV3 dc3 pm3 an3 cd3 ct3), sl3⟩) (c3 : PySem.W.codeIn K cd3 "_law_flip" = true) (k3 : PySem.W.keepIn K (.ref f3) = true)
    {f4 : Addr} {od4 an4 : Option Addr} {sl4 : Array (Option Value)} {oc4 kV4 dc4 pm4 cd4 ct4 : Value}
    (a4 : PySem.W.nsIn K mainGlobals "_law_sheet" = some (some (.ref f4))) (l4 : K.lookup f4 = some ⟨oc4, od4, .func (PySem.W.fnOf "_law_sheet" "_law_sheet" (defArgs s__law_sheet) (defBody s__law_sheet) (defScope s__law_sheet) .none kV4 dc4 pm4 an4 cd4 ct4), sl4⟩) (c4 : PySem.W.codeIn K cd4 "_law_sheet" = true) (k4 : PySem.W.keepIn K (.ref f4) = true)
    {f5 : Addr} {od5 an5 : Option Addr} {sl5 : Array (Option Value)} {oc5 kV5 dc5 pm5 cd5 ct5 : Value}
    (a5 : PySem.W.nsIn K mainGlobals "_law_led_elsewhere" = some (some (.ref f5))) (l5 : K.lookup f5 = some ⟨oc5, od5, .func (PySem.W.fnOf "_law_led_elsewhere" "_law_led_elsewhere" (defArgs s__law_led_elsewhere) (defBody s__law_led_elsewhere) (defScope s__law_led_elsewhere) .none kV5 dc5 pm5 an5 cd5 ct5), sl5⟩) (c5 : PySem.W.codeIn K cd5 "_law_led_elsewhere" = true) (k5 : PySem.W.keepIn K (.ref f5) = true)
    {f6 : Addr} {od6 an6 : Option Addr} {sl6 : Array (Option Value)} {oc6 kV6 dc6 pm6 cd6 ct6 : Value}
    (a6 : PySem.W.nsIn K mainGlobals "_law_sheet_copy" = some (some (.ref f6))) (l6 : K.lookup f6 = some ⟨oc6, od6, .func (PySem.W.fnOf "_law_sheet_copy" "_law_sheet_copy" (defArgs s__law_sheet_copy) (defBody s__law_sheet_copy) (defScope s__law_sheet_copy) .none kV6 dc6 pm6 an6 cd6 ct6), sl6⟩) (c6 : PySem.W.codeIn K cd6 "_law_sheet_copy" = true) (k6 : PySem.W.keepIn K (.ref f6) = true)
    {f7 : Addr} {od7 an7 : Option Addr} {sl7 : Array (Option Value)} {oc7 kV7 dc7 pm7 cd7 ct7 : Value}
    (a7 : PySem.W.nsIn K mainGlobals "_law_cell" = some (some (.ref f7))) (l7 : K.lookup f7 = some ⟨oc7, od7, .func (PySem.W.fnOf "_law_cell" "_law_cell" (defArgs s__law_cell) (defBody s__law_cell) (defScope s__law_cell) .none kV7 dc7 pm7 an7 cd7 ct7), sl7⟩) (c7 : PySem.W.codeIn K cd7 "_law_cell" = true) (k7 : PySem.W.keepIn K (.ref f7) = true)
    {f8 : Addr} {od8 an8 : Option Addr} {sl8 : Array (Option Value)} {oc8 kV8 dc8 pm8 cd8 ct8 : Value}
    (a8 : PySem.W.nsIn K mainGlobals "behind_turn" = some (some (.ref f8))) (l8 : K.lookup f8 = some ⟨oc8, od8, .func (PySem.W.fnOf "behind_turn" "behind_turn" (defArgs s_behind_turn) (defBody s_behind_turn) (defScope s_behind_turn) .none kV8 dc8 pm8 an8 cd8 ct8), sl8⟩) (c8 : PySem.W.codeIn K cd8 "behind_turn" = true) (k8 : PySem.W.keepIn K (.ref f8) = true)
    {f9 : Addr} {od9 an9 : Option Addr} {sl9 : Array (Option Value)} {oc9 kV9 dc9 pm9 cd9 ct9 : Value}
    (a9 : PySem.W.nsIn K mainGlobals "rows_of" = some (some (.ref f9))) (l9 : K.lookup f9 = some ⟨oc9, od9, .func (PySem.W.fnOf "rows_of" "rows_of" (defArgs s_rows_of) (defBody s_rows_of) (defScope s_rows_of) .none kV9 dc9 pm9 an9 cd9 ct9), sl9⟩) (c9 : PySem.W.codeIn K cd9 "rows_of" = true) (k9 : PySem.W.keepIn K (.ref f9) = true)
    {f10 : Addr} {od10 an10 : Option Addr} {sl10 : Array (Option Value)} {oc10 kV10 dc10 pm10 cd10 ct10 : Value}
    (a10 : PySem.W.nsIn K mainGlobals "is_name" = some (some (.ref f10))) (l10 : K.lookup f10 = some ⟨oc10, od10, .func (PySem.W.fnOf "is_name" "is_name" (defArgs s_is_name) (defBody s_is_name) (defScope s_is_name) .none kV10 dc10 pm10 an10 cd10 ct10), sl10⟩) (c10 : PySem.W.codeIn K cd10 "is_name" = true) (k10 : PySem.W.keepIn K (.ref f10) = true)
    {f11 : Addr} {od11 an11 : Option Addr} {sl11 : Array (Option Value)} {oc11 kV11 dc11 pm11 cd11 ct11 : Value}
    (a11 : PySem.W.nsIn K mainGlobals "are_names" = some (some (.ref f11))) (l11 : K.lookup f11 = some ⟨oc11, od11, .func (PySem.W.fnOf "are_names" "are_names" (defArgs s_are_names) (defBody s_are_names) (defScope s_are_names) .none kV11 dc11 pm11 an11 cd11 ct11), sl11⟩) (c11 : PySem.W.codeIn K cd11 "are_names" = true) (k11 : PySem.W.keepIn K (.ref f11) = true)
    {f12 : Addr} {od12 an12 : Option Addr} {sl12 : Array (Option Value)} {oc12 kV12 dc12 pm12 cd12 ct12 : Value}
    (a12 : PySem.W.nsIn K mainGlobals "are_signs" = some (some (.ref f12))) (l12 : K.lookup f12 = some ⟨oc12, od12, .func (PySem.W.fnOf "are_signs" "are_signs" (defArgs s_are_signs) (defBody s_are_signs) (defScope s_are_signs) .none kV12 dc12 pm12 an12 cd12 ct12), sl12⟩) (c12 : PySem.W.codeIn K cd12 "are_signs" = true) (k12 : PySem.W.keepIn K (.ref f12) = true)
    {f13 : Addr} {od13 an13 : Option Addr} {sl13 : Array (Option Value)} {oc13 kV13 dc13 pm13 cd13 ct13 : Value}
    (a13 : PySem.W.nsIn K mainGlobals "is_whole" = some (some (.ref f13))) (l13 : K.lookup f13 = some ⟨oc13, od13, .func (PySem.W.fnOf "is_whole" "is_whole" (defArgs s_is_whole) (defBody s_is_whole) (defScope s_is_whole) .none kV13 dc13 pm13 an13 cd13 ct13), sl13⟩) (c13 : PySem.W.codeIn K cd13 "is_whole" = true) (k13 : PySem.W.keepIn K (.ref f13) = true)
    {f14 : Addr} {od14 an14 : Option Addr} {sl14 : Array (Option Value)} {oc14 kV14 dc14 pm14 cd14 ct14 : Value}
    (a14 : PySem.W.nsIn K mainGlobals "is_turn" = some (some (.ref f14))) (l14 : K.lookup f14 = some ⟨oc14, od14, .func (PySem.W.fnOf "is_turn" "is_turn" (defArgs s_is_turn) (defBody s_is_turn) (defScope s_is_turn) .none kV14 dc14 pm14 an14 cd14 ct14), sl14⟩) (c14 : PySem.W.codeIn K cd14 "is_turn" = true) (k14 : PySem.W.keepIn K (.ref f14) = true)
    {f15 : Addr} {od15 an15 : Option Addr} {sl15 : Array (Option Value)} {oc15 kV15 dc15 pm15 cd15 ct15 : Value}
    (a15 : PySem.W.nsIn K mainGlobals "is_node" = some (some (.ref f15))) (l15 : K.lookup f15 = some ⟨oc15, od15, .func (PySem.W.fnOf "is_node" "is_node" (defArgs s_is_node) (defBody s_is_node) (defScope s_is_node) .none kV15 dc15 pm15 an15 cd15 ct15), sl15⟩) (c15 : PySem.W.codeIn K cd15 "is_node" = true) (k15 : PySem.W.keepIn K (.ref f15) = true)
    {f16 : Addr} {od16 an16 : Option Addr} {sl16 : Array (Option Value)} {oc16 kV16 dc16 pm16 cd16 ct16 : Value}
    (a16 : PySem.W.nsIn K mainGlobals "is_sheet" = some (some (.ref f16))) (l16 : K.lookup f16 = some ⟨oc16, od16, .func (PySem.W.fnOf "is_sheet" "is_sheet" (defArgs s_is_sheet) (defBody s_is_sheet) (defScope s_is_sheet) .none kV16 dc16 pm16 an16 cd16 ct16), sl16⟩) (c16 : PySem.W.codeIn K cd16 "is_sheet" = true) (k16 : PySem.W.keepIn K (.ref f16) = true)
    {f17 : Addr} {od17 an17 : Option Addr} {sl17 : Array (Option Value)} {oc17 kV17 dc17 pm17 cd17 ct17 : Value}
    (a17 : PySem.W.nsIn K mainGlobals "_law_signs" = some (some (.ref f17))) (l17 : K.lookup f17 = some ⟨oc17, od17, .func (PySem.W.fnOf "_law_signs" "_law_signs" (defArgs s__law_signs) (defBody s__law_signs) (defScope s__law_signs) .none kV17 dc17 pm17 an17 cd17 ct17), sl17⟩) (c17 : PySem.W.codeIn K cd17 "_law_signs" = true) (k17 : PySem.W.keepIn K (.ref f17) = true)
    {f18 : Addr} {od18 an18 : Option Addr} {sl18 : Array (Option Value)} {oc18 kV18 dc18 pm18 cd18 ct18 : Value}
    (a18 : PySem.W.nsIn K mainGlobals "law" = some (some (.ref f18))) (l18 : K.lookup f18 = some ⟨oc18, od18, .func (PySem.W.fnOf "law" "law" (defArgs s_law) (defBody s_law) (defScope s_law) .none kV18 dc18 pm18 an18 cd18 ct18), sl18⟩) (c18 : PySem.W.codeIn K cd18 "law" = true) (k18 : PySem.W.keepIn K (.ref f18) = true)
    (z_bool : PySem.W.nsIn K mainGlobals "bool" = some none)
    (z_int : PySem.W.nsIn K mainGlobals "int" = some none)
    (z_isinstance : PySem.W.nsIn K mainGlobals "isinstance" = some none)
    (z_len : PySem.W.nsIn K mainGlobals "len" = some none)
    (z_list : PySem.W.nsIn K mainGlobals "list" = some none)
    (z_max : PySem.W.nsIn K mainGlobals "max" = some none)
    (z_min : PySem.W.nsIn K mainGlobals "min" = some none)
    (z_range : PySem.W.nsIn K mainGlobals "range" = some none)
    (z_set : PySem.W.nsIn K mainGlobals "set" = some none)
    (z_str : PySem.W.nsIn K mainGlobals "str" = some none)
    (z_tuple : PySem.W.nsIn K mainGlobals "tuple" = some none)
    {ct_LETTERS : Tok} (cg_LETTERS : PySem.W.nsIn K mainGlobals "LETTERS" = some (some (.str (PySem.Str.ofString "abcdefghijklmnopqrstuvwxyz") ct_LETTERS)))
    {ct_MOST_NODES : Tok} (cg_MOST_NODES : PySem.W.nsIn K mainGlobals "MOST_NODES" = some (some (.int 40 ct_MOST_NODES)))
    : ∃ fd : FuncData, (∀ (s : Shared) (v : Value), BindsTo s fd ⟨[v], []⟩ [("script", v)]) ∧ ∀ base : Heap, K.In base → base.Ns mainGlobals mg → FnOk l.prog w K mg base CX0 5 fa fd ["script"] (@spOf (ecOf l.prog w K) D D (@EC.ec (ecOf l.prog w K)) (fun a => [.f a]) (fun a => m_law a) (fun r => .f r) (fun r => [none])) := by
  letI : EC := ecOf l.prog w K
  have e := hfa.symm.trans (PySem.W.mg_of X G a18)
  cases e
  have F0 := fun_mk (st := s__law_store) l0 c0 k0
  have b0 := F0.binds (ps := ["cell"]) fun _ _ _ _ _ _ us hl => match us, hl with | [_], _ => rfl
  have F1 := fun_mk (st := s__law_take) l1 c1 k1
  have b1 := F1.binds (ps := ["store", "many"]) fun _ _ _ _ _ _ us hl => match us, hl with | [_, _], _ => rfl
  have F2 := fun_mk (st := s__law_some_names) l2 c2 k2
  have b2 := F2.binds (ps := ["store", "many"]) fun _ _ _ _ _ _ us hl => match us, hl with | [_, _], _ => rfl
  have F3 := fun_mk (st := s__law_flip) l3 c3 k3
  have b3 := F3.binds (ps := ["signs", "at"]) fun _ _ _ _ _ _ us hl => match us, hl with | [_, _], _ => rfl
  have F4 := fun_mk (st := s__law_sheet) l4 c4 k4
  have b4 := F4.binds (ps := ["store", "most"]) fun _ _ _ _ _ _ us hl => match us, hl with | [_, _], _ => rfl
  have F5 := fun_mk (st := s__law_led_elsewhere) l5 c5 k5
  have b5 := F5.binds (ps := ["store", "nodes"]) fun _ _ _ _ _ _ us hl => match us, hl with | [_, _], _ => rfl
  have F6 := fun_mk (st := s__law_sheet_copy) l6 c6 k6
  have b6 := F6.binds (ps := ["sheet"]) fun _ _ _ _ _ _ us hl => match us, hl with | [_], _ => rfl
  have F7 := fun_mk (st := s__law_cell) l7 c7 k7
  have b7 := F7.binds (ps := ["script", "k"]) fun _ _ _ _ _ _ us hl => match us, hl with | [_, _], _ => rfl
  have F8 := fun_mk (st := s_behind_turn) l8 c8 k8
  have b8 := F8.binds (ps := ["names", "signs", "name"]) fun _ _ _ _ _ _ us hl => match us, hl with | [_, _, _], _ => rfl
  have F9 := fun_mk (st := s_rows_of) l9 c9 k9
  have b9 := F9.binds (ps := ["names", "first", "nodes"]) fun _ _ _ _ _ _ us hl => match us, hl with | [_, _, _], _ => rfl
  have F10 := fun_mk (st := s_is_name) l10 c10 k10
  have b10 := F10.binds (ps := ["thing"]) fun _ _ _ _ _ _ us hl => match us, hl with | [_], _ => rfl
  have F11 := fun_mk (st := s_are_names) l11 c11 k11
  have b11 := F11.binds (ps := ["thing"]) fun _ _ _ _ _ _ us hl => match us, hl with | [_], _ => rfl
  have F12 := fun_mk (st := s_are_signs) l12 c12 k12
  have b12 := F12.binds (ps := ["thing", "many"]) fun _ _ _ _ _ _ us hl => match us, hl with | [_, _], _ => rfl
  have F13 := fun_mk (st := s_is_whole) l13 c13 k13
  have b13 := F13.binds (ps := ["thing"]) fun _ _ _ _ _ _ us hl => match us, hl with | [_], _ => rfl
  have F14 := fun_mk (st := s_is_turn) l14 c14 k14
  have b14 := F14.binds (ps := ["thing", "names", "many"]) fun _ _ _ _ _ _ us hl => match us, hl with | [_, _, _], _ => rfl
  have F15 := fun_mk (st := s_is_node) l15 c15 k15
  have b15 := F15.binds (ps := ["thing", "names", "many"]) fun _ _ _ _ _ _ us hl => match us, hl with | [_, _, _], _ => rfl
  have F16 := fun_mk (st := s_is_sheet) l16 c16 k16
  have b16 := F16.binds (ps := ["thing"]) fun _ _ _ _ _ _ us hl => match us, hl with | [_], _ => rfl
  have F17 := fun_mk (st := s__law_signs) l17 c17 k17
  have b17 := F17.binds (ps := ["sheet"]) fun _ _ _ _ _ _ us hl => match us, hl with | [_], _ => rfl
  have F18 := fun_mk (st := s_law) l18 c18 k18
  exact ⟨PySem.W.fnOf "law" "law" (defArgs s_law) (defBody s_law) (defScope s_law) .none kV18 dc18 pm18 an18 cd18 ct18, fun s v => .of_eq rfl, fun base _ _ => ok_law ⟨_, _, F0, b0, PySem.W.mg_of X G a0, _, _, F1, b1, PySem.W.mg_of X G a1, _, _, F2, b2, PySem.W.mg_of X G a2, _, _, F3, b3, PySem.W.mg_of X G a3, _, _, F4, b4, PySem.W.mg_of X G a4, _, _, F5, b5, PySem.W.mg_of X G a5, _, _, F6, b6, PySem.W.mg_of X G a6, _, _, F7, b7, PySem.W.mg_of X G a7, _, _, F8, b8, PySem.W.mg_of X G a8, _, _, F9, b9, PySem.W.mg_of X G a9, _, _, F10, b10, PySem.W.mg_of X G a10, _, _, F11, b11, PySem.W.mg_of X G a11, _, _, F12, b12, PySem.W.mg_of X G a12, _, _, F13, b13, PySem.W.mg_of X G a13, _, _, F14, b14, PySem.W.mg_of X G a14, _, _, F15, b15, PySem.W.mg_of X G a15, _, _, F16, b16, PySem.W.mg_of X G a16, _, _, F17, b17, PySem.W.mg_of X G a17, _, _, F18, PySem.W.mg_none_of X G z_bool, PySem.W.mg_none_of X G z_int, PySem.W.mg_none_of X G z_isinstance, PySem.W.mg_none_of X G z_len, PySem.W.mg_none_of X G z_list, PySem.W.mg_none_of X G z_max, PySem.W.mg_none_of X G z_min, PySem.W.mg_none_of X G z_range, PySem.W.mg_none_of X G z_set, PySem.W.mg_none_of X G z_str, PySem.W.mg_none_of X G z_tuple, ct_LETTERS, PySem.W.mg_of X G cg_LETTERS, ct_MOST_NODES, PySem.W.mg_of X G cg_MOST_NODES⟩⟩
end W

namespace W
open PySem VL
/-! steps -/
section
variable {α β : Type}
@[simp] theorem sx_ob (a : α) (k : α → Res β) : ob (some a) k = k a := rfl
@[simp] theorem sx_rb (a : α) (k : α → Res β) : rb (.ok a) k = k a := rfl
@[simp] theorem sx_on1 {Z R Q : Type} (z : Z) (a : Z → Res Q) (b : R → Res Q) : Fl.on (.nx z) a b = a z := rfl
@[simp] theorem sx_on2 {Z R Q : Type} (z : R) (a : Z → Res Q) (b : R → Res Q) : Fl.on (.rt z) a b = b z := rfl
end
@[simp] theorem sx_t0 {a : D} {l : List D} : ixD (.tup (a :: l)) (.int 0) = some a := ix_t (i := 0) rfl
@[simp] theorem sx_t1 {a b : D} {l : List D} : ixD (.tup (a :: b :: l)) (.int 1) = some b := ix_t (i := 1) rfl
@[simp] theorem sx_t2 {a b c : D} {l : List D} : ixD (.tup (a :: b :: c :: l)) (.int 2) = some c := ix_t (i := 2) rfl
@[simp] theorem sx_t3 {a b c d : D} {l : List D} : ixD (.tup (a :: b :: c :: d :: l)) (.int 3) = some d := ix_t (i := 3) rfl
@[simp] theorem sx_l0 {a : D} {l : List D} : ixD (.lst (a :: l)) (.int 0) = some a := ix_l (i := 0) rfl
@[simp] theorem sx_l1 {a b : D} {l : List D} : ixD (.lst (a :: b :: l)) (.int 1) = some b := ix_l (i := 1) rfl
@[simp] theorem sx_l2 {a b c : D} {l : List D} : ixD (.lst (a :: b :: c :: l)) (.int 2) = some c := ix_l (i := 2) rfl
@[simp] theorem sx_eqs (a b : List Nat) : eqD (.str a) (.str b) = some (a == b) := eq_str
@[simp] theorem sx_nes (a b : List Nat) : neD (.str a) (.str b) = some (!(a == b)) := ne_str
theorem eq_int {a b : Int} : eqD (.int a) (.int b) = some (a == b) := by
  unfold eqD
  rw [if_pos ⟨rfl, rfl, Nat.zero_le _⟩]
  simp [D.eqv]
@[simp] theorem sx_eqi (a b : Int) : eqD (.int a) (.int b) = some (a == b) := eq_int
@[simp] theorem sx_nei (a b : Int) : neD (.int a) (.int b) = some (!(a == b)) := by unfold neD; rw [eq_int]; rfl
@[simp] theorem sx_asL (l : List D) : asLst (.lst l) = some l := rfl
@[simp] theorem sx_asS (l : List Nat) : asStr (.str l) = some l := rfl
@[simp] theorem sx_asB (b : Bool) : asB (.bl b) = some b := rfl
@[simp] theorem sx_asI (b : Int) : asI (.int b) = some b := rfl
@[simp] theorem sx_len (l : List D) : lenD (.lst l) = some (.int l.length) := rfl
@[simp] theorem sx_lent (l : List D) : lenD (.tup l) = some (.int l.length) := rfl
@[simp] theorem sx_add (a b : Int) : addD (.int a) (.int b) = some (.int (a + b)) := rfl
@[simp] theorem sx_sub (a b : Int) : subD (.int a) (.int b) = some (.int (a - b)) := rfl
@[simp] theorem sx_neg (a : Int) : negD (.int a) = some (.int (-a)) := rfl
@[simp] theorem sx_lt (a b : Int) : ltD (.int a) (.int b) = some (decide (a < b)) := rfl
@[simp] theorem sx_le (a b : Int) : leD (.int a) (.int b) = some (decide (a ≤ b)) := rfl
@[simp] theorem sx_gt (a b : Int) : gtD (.int a) (.int b) = some (decide (b < a)) := rfl
@[simp] theorem sx_ge (a b : Int) : geD (.int a) (.int b) = some (decide (b ≤ a)) := rfl
@[simp] theorem sx_min (a b : Int) : minD (.int a) (.int b) = some (.int (if b < a then b else a)) := rfl
@[simp] theorem sx_max (a b : Int) : maxD (.int a) (.int b) = some (.int (if b > a then b else a)) := rfl
@[simp] theorem sx_list (l : List D) : listD (.lst l) = some l := rfl
@[simp] theorem sx_listT (l : List D) : listD (.tup l) = some l := rfl
@[simp] theorem sx_un2 (a b : D) : un2 (.tup [a, b]) = some (a, b) := rfl
@[simp] theorem sx_un3 (a b c : D) : un3 (.tup [a, b, c]) = some (a, b, c) := rfl
@[simp] theorem sx_un4 (a b c d : D) : un4 (.tup [a, b, c, d]) = some (a, b, c, d) := rfl
@[simp] theorem sx_isKs (a : List Nat) : isK (.str a) .str = some true := rfl
@[simp] theorem sx_isKl (a : List D) : isK (.lst a) .list = some true := rfl
@[simp] theorem sx_isKt (a : List D) : isK (.tup a) .tuple = some true := rfl
@[simp] theorem sx_intB (b : Bool) : intD (.bl b) = some (.int (if b then 1 else 0)) := rfl
@[simp] theorem sx_intI (b : Int) : intD (.int b) = some (.int b) := rfl
/-! small lists -/
theorem pigeon {α : Type} [DecidableEq α] : ∀ {a b : List α}, a.Nodup → (∀ x ∈ a, x ∈ b) → a.length ≤ b.length
  | [], _, _, _ => Nat.zero_le _
  | x :: r, b, nd, h => by
    have hx : x ∈ b := h x List.mem_cons_self
    rw [List.nodup_cons] at nd
    have := pigeon (a := r) (b := b.erase x) nd.2 fun y hy => by
      have : y ≠ x := fun e => nd.1 (e ▸ hy)
      exact (List.mem_erase_of_ne this).mpr (h y (List.mem_cons_of_mem _ hy))
    rw [List.length_erase_of_mem hx] at this
    have : 0 < b.length := List.length_pos_of_mem hx
    simp only [List.length_cons]; omega
theorem ix_neg1 {l : List D} {d : D} (h : l[l.length - 1]? = some d) (hl : 0 < l.length) : ixD (.lst l) (.int (-1)) = some d := by
  show L2.atI l _ = _
  unfold L2.atI L2.ixN
  rw [if_neg (by omega), if_pos (by omega), show ((-1 : Int) + l.length).toNat = l.length - 1 by omega]
  exact h
theorem ix_sn {s : List Nat} {i c : Nat} (h : s[i]? = some c) (hl : s.length ≤ 1000) : ixD (.str s) (.int (i : Nat)) = some (.str [c]) := ix_s h (by omega)
theorem slS_to {s : List Nat} {n : Nat} (h : n ≤ s.length) (hl : s.length ≤ 1000) : slS none (some (n : Nat)) (.str s) = some (.str (s.take n)) := by
  show (if s.length ≤ 16777216 then _ else none) = _
  rw [if_pos (by omega), cut_to _ _ h]
theorem slS_from {s : List Nat} {n : Nat} (h : n ≤ s.length) (hl : s.length ≤ 1000) : slS (some (n : Nat)) none (.str s) = some (.str (s.drop n)) := by
  show (if s.length ≤ 16777216 then _ else none) = _
  rw [if_pos (by omega), cut_from _ _ h]
theorem slL_to {s : List D} {n : Nat} (h : n ≤ s.length) : slL none (some (n : Nat)) (.lst s) = some (s.take n) := by
  show some (cut s _ _) = _
  rw [cut_to _ _ h]
theorem slL_from {s : List D} {n : Nat} (h : n ≤ s.length) : slL (some (n : Nat)) none (.lst s) = some (s.drop n) := by
  show some (cut s _ _) = _
  rw [cut_from _ _ h]
theorem strsD_map : ∀ l : List (List Nat), strsD (l.map D.str) = some l
  | [] => rfl
  | x :: r => by
    show (strsD (r.map D.str)).map (x :: ·) = _
    rw [strsD_map r]; rfl
theorem joinS_nil : ∀ l : List (List Nat), joinS [] l = l.flatten
  | [] => rfl
  | [x] => by simp [joinS]
  | x :: y :: r => by
    show x ++ [] ++ joinS [] (y :: r) = _
    rw [joinS_nil (y :: r)]; simp
theorem join_map {l : List (List Nat)} (h : (l.map List.length).sum ≤ 1000) : joinD (.str []) (.lst (l.map D.str)) = some (.str l.flatten) := by
  show (match strsD (l.map D.str) with | some ys => _ | none => none) = _
  rw [strsD_map]
  simp only
  rw [if_pos (by simp; omega), joinS_nil]
/-! draws out of a deck -/
def St3 (l : List D) : Prop := ∃ a b c : Int, l = [.int a, .int b, .int c]
structure Dk (d : List (List D) × D) : Prop where
  n0 : 0 < d.1.length
  n1 : d.1.length ≤ 1000
  c : ∃ c : Int, d.2 = .int c
  p : ∀ l ∈ d.1, St3 l
theorem Dk.set {d : List (List D) × D} (h : Dk d) (j : Nat) {l : List D} (hl : St3 l) (c : Int) : Dk (d.1.set j l, .int c) :=
  ⟨by simpa using h.n0, by simpa using h.n1, ⟨c, rfl⟩, fun x hx => by
    rcases List.mem_or_eq_of_mem_set hx with h1 | h1
    · exact h.p x h1
    · exact h1 ▸ hl⟩
end W
namespace W
open PySem VL
/-! a comprehension with its turn -/
theorem sat_fmSn {Z : Type} {f : Z → D → Res (Option D × Z)} {I : Nat → Z → List D → Prop} : ∀ (ds : List D) (z0 : Z) (acc : List D) (n : Nat), I n z0 acc → (∀ i z d acc, ds[i]? = some d → I (n + i) z acc → Sat (f z d) (fun o => I (n + i + 1) o.2 (accD acc o.1))) → Sat (fmS ds z0 f) (fun p => I (n + ds.length) p.2 (acc ++ p.1))
  | [], z0, acc, n, h0, _ => ⟨_, rfl, by show I (n + 0) z0 (acc ++ []); rw [List.append_nil]; exact h0⟩
  | d :: r, z0, acc, n, h0, h => by
    refine sat_rb (h 0 z0 d acc rfl h0) fun o ho => ?_
    have := sat_fmSn r o.2 (accD acc o.1) (n + 1) ho fun i z d acc e hi => by
      have := h (i + 1) z d acc (by simpa using e) (by rw [show n + (i + 1) = n + 1 + i by omega]; exact hi)
      rwa [show n + (i + 1) = n + 1 + i by omega] at this
    refine sat_rb this fun q hq => ⟨_, rfl, ?_⟩
    rw [show n + 1 + r.length = n + (d :: r).length by simp; omega] at hq
    cases e : o.1 with
    | none => rw [e] at hq; exact hq
    | some y =>
      rw [e] at hq
      have : acc ++ [y] ++ q.1 = acc ++ (y :: q.1) := by simp
      rw [← this]; exact hq
def rngL (n : Nat) : List D := (List.range n).map fun k => .int (k : Nat)
theorem rng_n {n : Nat} (h : n ≤ 16777216) : rngD (.int 0) (.int (n : Nat)) = some (rngL n) := rng0 h
theorem rngL_len (n : Nat) : (rngL n).length = n := by simp [rngL]
theorem rngL_get {n i : Nat} {d : D} (h : (rngL n)[i]? = some d) : i < n ∧ d = .int (i : Nat) := by
  have hi : i < n := by
    have := (List.getElem?_eq_some_iff.mp h).1
    simpa [rngL] using this
  refine ⟨hi, ?_⟩
  rw [rngL, List.getElem?_map, List.getElem?_range hi] at h
  cases h; rfl
/-! texts -/
def chD (c : Nat) : D := .str [c]
theorem strL_map (s : List Nat) : strL s = s.map chD := rfl
theorem strLD_eq {s : List Nat} (h : s.length ≤ 1000) : strLD (.str s) = some (s.map chD) := by
  show (if s.length ≤ 16777216 then _ else none) = _
  rw [if_pos (by omega)]; rfl
theorem strsD_ch : ∀ s : List Nat, strsD (s.map chD) = some (s.map fun c => [c])
  | [] => rfl
  | c :: r => by
    show (strsD (r.map chD)).map ([c] :: ·) = _
    rw [strsD_ch r]; rfl
theorem join_ch {s : List Nat} (h : s.length ≤ 1000) : joinD (.str []) (.lst (s.map chD)) = some (.str s) := by
  show (match strsD (s.map chD) with | some ys => _ | none => none) = _
  rw [strsD_ch]
  have e1 : ((s.map fun c => [c]).map List.length).sum = s.length := by
    clear h
    induction s with
    | nil => rfl
    | cons c r ih => simp at ih ⊢; omega
  have e2 : (s.map fun c => [c]).flatten = s := by
    clear h e1
    induction s with
    | nil => rfl
    | cons c r ih => simp at ih ⊢; exact ih
  simp only
  rw [if_pos (by rw [e1]; simp; omega), joinS_nil, e2]
def Low (s : List Nat) : Prop := ∀ c ∈ s, 97 ≤ c ∧ c ≤ 122
structure Word (w : List Nat) : Prop where
  l0 : 1 ≤ w.length
  l1 : w.length ≤ 8
  lo : Low w
theorem Low.app {a b : List Nat} (h : Low a) (k : Low b) : Low (a ++ b) := fun c hc => (List.mem_append.mp hc).elim (h c) (k c)
theorem Low.take {a : List Nat} (h : Low a) (n : Nat) : Low (a.take n) := fun c hc => h c (List.mem_of_mem_take hc)
theorem Low.drop {a : List Nat} (h : Low a) (n : Nat) : Low (a.drop n) := fun c hc => h c (List.mem_of_mem_drop hc)
theorem Low.one {c : Nat} (h : 97 ≤ c ∧ c ≤ 122) : Low [c] := fun x hx => by
  rw [List.mem_singleton] at hx; subst hx; exact h
def dn (l : List (List Nat)) : List D := l.map .str
theorem dn_len (l : List (List Nat)) : (dn l).length = l.length := by simp [dn]
theorem dn_get {l : List (List Nat)} {i : Nat} {w : List Nat} (h : l[i]? = some w) : (dn l)[i]? = some (.str w) := by simp [dn, h]
theorem dn_flat (l : List (List Nat)) : (dn l).all D.flat = true := by
  simp [dn, List.all_eq_true]; intro x _; rfl
theorem dn_plain (l : List (List Nat)) : D.plains (dn l) = true := by
  rw [plains_iff]
  intro d hd
  simp only [dn, List.mem_map] at hd
  obtain ⟨_, _, rfl⟩ := hd; rfl
theorem dn_dep (l : List (List Nat)) : D.deps (dn l) = 0 := by
  have := deps_le (l := dn l) (n := 0) fun d hd => by
    simp only [dn, List.mem_map] at hd
    obtain ⟨_, _, rfl⟩ := hd; exact Nat.zero_le _
  omega
theorem dn_app (a b : List (List Nat)) : dn (a ++ b) = dn a ++ dn b := by simp [dn]
theorem in_dn (w : List Nat) (l : List (List Nat)) : inD (.str w) (.lst (dn l)) = some (decide (w ∈ l)) := by
  show (if _ then _ else none) = _
  rw [if_pos ⟨rfl, dn_flat l⟩]
  congr 1
  rw [Bool.eq_iff_iff, List.any_eq_true, decide_eq_true_iff]
  constructor
  · rintro ⟨d, hd, e⟩
    simp only [dn, List.mem_map] at hd
    obtain ⟨v, hv, rfl⟩ := hd
    simp only [D.eqv, beq_iff_eq] at e
    exact e ▸ hv
  · intro h
    exact ⟨.str w, by simp only [dn, List.mem_map]; exact ⟨w, h, rfl⟩, by simp [D.eqv]⟩
theorem index_dn {ns : List (List Nat)} (nd : ns.Nodup) {i : Nat} {w : List Nat} (h : ns[i]? = some w) : indexD (.lst (dn ns)) (.str w) = some (.int (i : Nat)) := by
  show (if _ then _ else none) = _
  rw [if_pos ⟨rfl, dn_flat ns⟩]
  obtain ⟨hi, hw⟩ := List.getElem?_eq_some_iff.mp h
  have : (dn ns).findIdx? (fun d => D.eqv d (.str w)) = some i := by
    rw [List.findIdx?_eq_some_iff_getElem]
    refine ⟨by simpa [dn] using hi, by simp [dn, D.eqv, hw], fun j hj => ?_⟩
    simp only [dn, List.getElem_map, D.eqv, Bool.not_eq_true, beq_eq_false_iff_ne]
    intro e
    have := (List.getElem_inj nd).mp (e.trans hw.symm)
    omega
  rw [this]; rfl
theorem cat_dn {a b : List (List Nat)} (h : a.length + b.length ≤ 1000) : catD (.lst (dn a)) (.lst (dn b)) = some (dn (a ++ b)) := by
  rw [cat_l (by rw [dn_len, dn_len]; omega), dn_app]
theorem addS {a b : List Nat} (h : a.length + b.length ≤ 1000) : addD (.str a) (.str b) = some (.str (a ++ b)) := add_s (by omega)
end W
namespace W
open PySem VL
theorem fmR_xs {α : Type} {e : α → D} {f : D → Res (Option D)} {g : α → Option D} : ∀ (xs : List α), (∀ x ∈ xs, f (e x) = .ok (g x)) → fmR (xs.map e) f = .ok (xs.filterMap g)
  | [], _ => rfl
  | x :: r, h => by
    show rb (f (e x)) _ = _
    rw [h x List.mem_cons_self]
    show rb (fmR (r.map e) f) _ = _
    rw [fmR_xs r fun y hy => h y (List.mem_cons_of_mem _ hy)]
    rw [List.filterMap_cons]
    cases g x <;> rfl
theorem filterMap_if {α β : Type} (p : α → Bool) (f : α → β) : ∀ xs : List α, xs.filterMap (fun x => if p x = true then some (f x) else none) = (xs.filter p).map f
  | [] => rfl
  | x :: r => by
    rw [List.filterMap_cons, List.filter_cons, filterMap_if p f r]
    cases p x <;> rfl
theorem eq_bl (a b : Bool) : eqD (.bl a) (.bl b) = some (a == b) := by
  unfold eqD
  rw [if_pos ⟨rfl, rfl, Nat.zero_le _⟩]
  simp [D.eqv]
@[simp] theorem sx_eqb (a b : Bool) : eqD (.bl a) (.bl b) = some (a == b) := eq_bl a b
@[simp] theorem sx_neb (a b : Bool) : neD (.bl a) (.bl b) = some (!(a == b)) := by unfold neD; rw [eq_bl]; rfl
theorem dnp (l : List (List Nat)) : (D.lst (dn l)).plain = true := by simp only [D.plain]; exact dn_plain _
theorem dnd (l : List (List Nat)) : (D.lst (dn l)).dep ≤ 60 := by simp [D.dep, dn_dep]
end W

namespace W
open PySem VL
/-! draws -/
def St (l : List D) : Prop := ∃ g s c : Int, l = [.int g, .int s, .int c]
theorem take_ok {l : List D} {n : Nat} (h : St l) (h0 : 0 < n) (h1 : n < 1073741824) : Sat (m__law_take l (.int (n : Nat))) (fun r => (∃ k : Nat, r.1 = .int (k : Nat) ∧ k < n) ∧ St r.2) := by
  obtain ⟨g, s, c, rfl⟩ := h
  unfold m__law_take
  refine sat_ob (c := D.int g) rfl (sat_ob (c := decide (0 < g)) rfl (sat_if (fun hg => ?_) fun hg => ?_))
  · refine sat_ob (c := D.int g) rfl (sat_ob (mod_i (by omega)) (sat_ob (c := D.int g) rfl (sat_ob (fdiv_i (by omega)) (sat_ob (c := [.int (g / n), .int s, .int c]) rfl (sat_ok ⟨⟨(g % n).toNat, ?_, ?_⟩, _, _, _, rfl⟩)))))
    · have := Int.emod_nonneg g (show (n : Int) ≠ 0 by omega)
      show D.int (g % n) = _
      rw [Int.toNat_of_nonneg this]
    · have := Int.emod_nonneg g (show (n : Int) ≠ 0 by omega)
      have := Int.emod_lt_of_pos g (show (0 : Int) < n by omega)
      omega
  · refine sat_ob (c := D.int c) rfl (sat_ob (c := D.int (c + 1)) rfl (sat_ob (c := [.int g, .int s, .int (c + 1)]) rfl ?_))
    refine sat_ob (c := D.int s) rfl (sat_ob (c := D.int (c + 1)) rfl (sat_ob (mul_l (by decide)) (sat_ob (c := D.int (s + 7919 * (c + 1))) rfl ?_)))
    generalize s + 7919 * (c + 1) = x
    refine sat_ob (mul_r (by decide)) (sat_ob (mod_i (by decide)) ?_)
    have b1 := Int.emod_nonneg (x * 48271) (show (2147483647 : Int) ≠ 0 by decide)
    have b2 := Int.emod_lt_of_pos (x * 48271) (show (0 : Int) < 2147483647 by decide)
    generalize x * 48271 % 2147483647 = y at b1 b2
    refine sat_ob (mul_l ⟨by omega, by omega⟩) (sat_ob (mod_i (by decide)) ?_)
    generalize y * y % 2147483629 = u
    refine sat_ob (c := D.int (c + 1)) rfl (sat_ob (mul_l (by decide)) (sat_ob (c := D.int (u + 40692 * (c + 1))) rfl ?_))
    generalize u + 40692 * (c + 1) = v
    refine sat_ob (mul_r (by decide)) (sat_ob (mod_i (by decide)) ?_)
    generalize v * 69621 % 2147483587 = t
    refine sat_ob (fdiv_i (by decide)) (sat_ob (mod_i (by omega)) (sat_ok ⟨⟨(t / 8 % n).toNat, ?_, ?_⟩, _, _, _, rfl⟩))
    · have := Int.emod_nonneg (t / 8) (show (n : Int) ≠ 0 by omega)
      show D.int (t / 8 % n) = _
      rw [Int.toNat_of_nonneg this]
    · have := Int.emod_nonneg (t / 8) (show (n : Int) ≠ 0 by omega)
      have := Int.emod_lt_of_pos (t / 8) (show (0 : Int) < n by omega)
      omega
theorem store_ok (c : Int) : Sat (m__law_store (.int c)) St := by
  unfold m__law_store
  refine sat_rb (P := fun d => ∃ g, d = .int g) ?_ fun d ⟨g, e⟩ => ?_
  · refine sat_ob (c := D.int (10 ^ 18)) rfl (sat_ob (c := decide (10 ^ 18 ≤ c)) rfl (sat_if (fun _ => sat_ok ⟨_, rfl⟩) fun _ => sat_ok ⟨0, rfl⟩))
  · subst e
    exact sat_ob (mod_i (by decide)) (sat_ok ⟨_, _, _, rfl⟩)
theorem cell_ok (ns : List Int) (h : ns.length ≤ 63) (k : Nat) (hk0 : k ≤ 1000) : Sat (m__law_cell (.lst (ns.map .int)) (.int (k : Nat))) (fun d => ∃ c, d = .int c) := by
  unfold m__law_cell
  refine sat_ob (c := D.int (ns.map D.int).length) rfl (sat_ob (c := decide ((k : Int) < (ns.map D.int).length)) rfl (sat_if (fun hk => ?_) fun hk => ?_))
  · have hk : (k : Int) < (ns.map D.int).length := of_decide_eq_true hk
    have hk' : k < ns.length := by simpa using hk
    refine sat_ob (c := D.int ns[k]) (ix_l (by rw [List.getElem?_map, List.getElem?_eq_getElem hk']; rfl)) (sat_ok ⟨_, rfl⟩)
  · exact sat_ob (mul_l (by decide)) (sat_ob (mul_l ⟨by omega, by omega⟩) (sat_ob (mul_l (by decide)) (sat_ob rfl (sat_ob rfl (sat_ok ⟨_, rfl⟩)))))
end W

namespace W
open PySem VL
/-! sheets whose nodes that can be come to have rows -/
def Bits (s : List Nat) : Prop := ∀ c ∈ s, c = 48 ∨ c = 49
def flipC (c : Nat) : Nat := if c = 48 then 49 else 48
def flipS (s : List Nat) (i : Nat) : List Nat := s.take i ++ [flipC (s.getD i 0)] ++ s.drop (i + 1)
theorem flipS_len {s : List Nat} {i : Nat} (h : i < s.length) : (flipS s i).length = s.length := by
  simp [flipS]; omega
theorem flipS_bits {s : List Nat} {i : Nat} (b : Bits s) : Bits (flipS s i) := by
  intro c hc
  simp only [flipS, List.mem_append, List.mem_singleton] at hc
  rcases hc with (hc | hc) | hc
  · exact b c (List.mem_of_mem_take hc)
  · subst hc; unfold flipC; split <;> simp
  · exact b c (List.mem_of_mem_drop hc)
theorem int_bit {c : Nat} (h : c = 48 ∨ c = 49) : intD (.str [c]) = some (.int (if c = 48 then (0 : Nat) else 1 : Nat)) := by
  have e0 : PySem.intText? (mkS [48]) = some 0 := by decide +kernel
  have e1 : PySem.intText? (mkS [49]) = some 1 := by decide +kernel
  rcases h with rfl | rfl
  · simp [intD, e0]
  · simp [intD, e1]
theorem flip_ok {s : List Nat} {i : Nat} (b : Bits s) (h : i < s.length) (hz : s.length ≤ 1000) : m__law_flip (.str s) (.int (i : Nat)) = .ok (.str (flipS s i)) := by
  refine of_sat ?_
  unfold m__law_flip
  have hc : s[i]? = some s[i] := List.getElem?_eq_getElem h
  have hb := b _ (List.getElem_mem h)
  refine sat_ob (c := ((i : Nat) : Int)) rfl (sat_ob (c := D.str (s.take i)) ?_ (sat_ob (ix_s hc (by omega)) (sat_ob (int_bit hb) (sat_ob (c := D.str [flipC s[i]]) ?_ ?_))))
  · show (if s.length ≤ 16777216 then _ else none) = _
    rw [if_pos (by omega), cut_to _ _ (by omega)]
  · rcases hb with e | e <;> rw [e] <;> rfl
  refine sat_ob (c := D.str (s.take i ++ [flipC s[i]])) (add_s (by simp; omega)) (sat_ob (c := D.int (i + 1)) rfl (sat_ob (c := (i : Int) + 1) rfl (sat_ob (c := D.str (s.drop (i + 1))) ?_ (sat_ob (c := D.str (flipS s i)) ?_ (sat_ok rfl)))))
  · show (if s.length ≤ 16777216 then _ else none) = _
    rw [if_pos (by omega), show ((i : Int) + 1) = ((i + 1 : Nat) : Int) by omega, cut_from _ _ (by omega)]
  · rw [add_s (by simp; omega)]
    simp only [flipS]
    rw [List.getD_eq_getElem?_getD, hc]; rfl
/-! names -/
theorem index_ok {ns : List (List Nat)} (nd : ns.Nodup) {i : Nat} (h : i < ns.length) : indexD (.lst (dn ns)) (.str ns[i]) = some (.int (i : Nat)) := by
  show (if _ then _ else none) = _
  rw [if_pos ⟨rfl, dn_flat ns⟩]
  have : (dn ns).findIdx? (fun d => D.eqv d (.str ns[i])) = some i := by
    rw [List.findIdx?_eq_some_iff_getElem]
    refine ⟨by simpa [dn] using h, by simp [dn, D.eqv], fun j hj => ?_⟩
    simp only [dn, List.getElem_map, D.eqv, Bool.not_eq_true, beq_eq_false_iff_ne]
    intro e
    have := (List.getElem_inj nd).mp e
    omega
  rw [this]; rfl
theorem num_bit {c : Nat} (h : c = 48 ∨ c = 49) : strI (.int (1 - (if c = 48 then (0 : Nat) else 1 : Nat))) = some (.str [flipC c]) := by
  have e0 : numS 0 = [48] := by decide +kernel
  have e1 : numS 1 = [49] := by decide +kernel
  rcases h with rfl | rfl
  · show strI (.int 1) = _
    simp [strI, e1, flipC]
  · show strI (.int 0) = _
    simp [strI, e0, flipC]
theorem behind_ok {ns : List (List Nat)} (nd : ns.Nodup) {s : List Nat} {i : Nat} (b : Bits s) (hl : s.length = ns.length) (h : i < ns.length) (hz : s.length ≤ 1000) :
    m_behind_turn (.lst (dn ns)) (.str s) (.str ns[i]) = .ok (.str (flipS s i)) := by
  refine of_sat ?_
  unfold m_behind_turn
  have hi : i < s.length := by omega
  have hc : s[i]? = some s[i] := List.getElem?_eq_getElem hi
  have hb := b _ (List.getElem_mem hi)
  refine sat_ob (c := dn ns) rfl (sat_ob (index_ok nd h) (sat_ob (c := ((i : Nat) : Int)) rfl (sat_ob (c := D.str (s.take i)) ?_ (sat_ob (ix_s hc (by omega)) (sat_ob (int_bit hb) (sat_ob (c := D.int (1 - (if s[i] = 48 then (0 : Nat) else 1 : Nat))) rfl (sat_ob (num_bit hb) ?_)))))))
  · show (if s.length ≤ 16777216 then _ else none) = _
    rw [if_pos (by omega), cut_to _ _ (by omega)]
  refine sat_ob (c := D.str (s.take i ++ [flipC s[i]])) (add_s (by simp; omega)) (sat_ob (c := D.int (i + 1)) rfl (sat_ob (c := (i : Int) + 1) rfl (sat_ob (c := D.str (s.drop (i + 1))) ?_ (sat_ob (c := D.str (flipS s i)) ?_ (sat_ok rfl)))))
  · show (if s.length ≤ 16777216 then _ else none) = _
    rw [if_pos (by omega), show ((i : Int) + 1) = ((i + 1 : Nat) : Int) by omega, cut_from _ _ (by omega)]
  · rw [add_s (by simp; omega)]
    simp only [flipS]
    rw [List.getD_eq_getElem?_getD, hc]; rfl
abbrev Turn := List Nat × Nat
def tD (p : Turn) : D := .tup [.str p.1, .int (p.2 : Nat)]
def nD (nodes : List (List Turn)) : List (List D) := nodes.map (·.map tD)
def NL (nodes : List (List Turn)) : D := .lst ((nD nodes).map .lst)
def rw_ (rows : List (List Nat)) (i : Nat) : List Nat := rows.getD i []
def nx (nodes : List (List Turn)) (i : Nat) : List Turn := nodes.getD i []
inductive Reach (nodes : List (List Turn)) : Nat → Prop
  | zero : Reach nodes 0
  | step {i : Nat} {p : Turn} : Reach nodes i → p ∈ nx nodes i → Reach nodes p.2
theorem nodup_le : ∀ (n : Nat) (l : List Nat), l.Nodup → (∀ i ∈ l, i < n) → l.length ≤ n
  | 0, l, _, h => by
    cases l with
    | nil => exact Nat.le_refl _
    | cons a r => exact absurd (h a List.mem_cons_self) (Nat.not_lt_zero _)
  | n + 1, l, nd, h => by
    have ih := nodup_le n (l.erase n) (nd.erase n) fun i hi => by
      have h1 := (nd.mem_erase_iff).mp hi
      have := h i h1.2
      omega
    have := List.length_erase (a := n) (l := l)
    split at this <;> omega
theorem node_at {nodes : List (List Turn)} {i : Nat} (h : i < nodes.length) : ixD (NL nodes) (.int (i : Nat)) = some (.lst ((nx nodes i).map tD)) := by
  refine ix_l ?_
  simp [nD, nx, h]
/-! the dict -/
def FD (ρ : Nat → List Nat) (seen : List Nat) : List (D × D) := seen.map fun i => (D.int (i : Nat), D.str (ρ i))
theorem fd_find (ρ : Nat → List Nat) (i : Nat) : ∀ seen : List Nat, findD (FD ρ seen) (.int (i : Nat)) = if i ∈ seen then some (.str (ρ i)) else none
  | [] => rfl
  | j :: r => by
    have ih := fd_find ρ i r
    unfold findD FD at ih ⊢
    rw [List.map_cons, List.find?_cons]
    by_cases e : j = i
    · subst e
      simp [D.eqv]
    · have : D.eqv (D.int (j : Nat)) (.int (i : Nat)) = false := by simp [D.eqv]; omega
      rw [this]
      simp only [List.mem_cons]
      rw [ih]
      have e' : ¬ i = j := fun z => e z.symm
      simp [e']
theorem fd_get {ρ : Nat → List Nat} {seen : List Nat} {i : Nat} (h : i ∈ seen) : dgetD (.dct false (FD ρ seen)) (.int (i : Nat)) = some (.str (ρ i)) := by
  simp only [dgetD]
  rw [if_pos (show keyOk false (D.int (i : Nat)) = true from rfl), fd_find, if_pos h]
theorem fd_in {ρ : Nat → List Nat} {seen : List Nat} {i : Nat} : dinD (.int (i : Nat)) (.dct false (FD ρ seen)) = some (decide (i ∈ seen)) := by
  simp only [dinD]
  rw [if_pos (show keyOk false (D.int (i : Nat)) = true from rfl), fd_find]
  by_cases h : i ∈ seen <;> simp [h]
theorem fd_put {ρ : Nat → List Nat} {seen : List Nat} {i : Nat} (h : i ∉ seen) (hl : seen.length < 16777216) : dputD false (FD ρ seen) (.int (i : Nat)) (.str (ρ i)) = some (FD ρ (seen ++ [i])) := by
  unfold dputD
  rw [if_pos ⟨rfl, by simpa [FD] using hl⟩]
  unfold storeD
  have : ((FD ρ seen).any fun kv => D.eqv kv.1 (.int (i : Nat))) = false := by
    rw [List.any_eq_false]
    intro kv hkv
    simp only [FD, List.mem_map] at hkv
    obtain ⟨j, hj, rfl⟩ := hkv
    simp only [D.eqv, beq_iff_eq]
    intro e
    have : j = i := by omega
    subst this; exact h hj
  rw [this]
  simp [FD]
def wD (w : List Nat) : List D := w.map fun i => .int (i : Nat)
theorem wD_plain (w : List Nat) : D.plains (wD w) = true := by
  rw [plains_iff]
  intro d hd
  simp only [wD, List.mem_map] at hd
  obtain ⟨_, _, rfl⟩ := hd; rfl
theorem wD_dep (w : List Nat) : D.deps (wD w) ≤ 60 := by
  refine deps_le fun d hd => ?_
  simp only [wD, List.mem_map] at hd
  obtain ⟨_, _, rfl⟩ := hd; exact Nat.zero_le _
theorem fd_up {ρ : Nat → List Nat} {seen : List Nat} {i : Nat} {s : List Nat} (h : i ∉ seen) (hl : seen.length < 16777216) : dputD false (FD ρ seen) (.int (i : Nat)) (.str s) = some (FD (fun j => if j = i then s else ρ j) (seen ++ [i])) := by
  have e : FD ρ seen = FD (fun j => if j = i then s else ρ j) seen := List.map_congr_left fun j hj => by
    dsimp only
    rw [if_neg (show ¬ j = i from fun e => h (by rw [← e]; exact hj))]
  rw [e]
  have := fd_put (ρ := fun j => if j = i then s else ρ j) h hl
  simpa using this
/-! the search through the turns -/
structure Wf (ns : List (List Nat)) (s0 : List Nat) (nodes : List (List Turn)) : Prop where
  nd : ns.Nodup
  nl : ns.length ≤ 100
  sl : s0.length = ns.length
  sb : Bits s0
  n0 : 0 < nodes.length
  nn : nodes.length ≤ 100
  tu : ∀ i, ∀ p ∈ nx nodes i, p.1 ∈ ns ∧ p.2 < nodes.length
def Val (ns : List (List Nat)) (s0 : List Nat) (nodes : List (List Turn)) (σ : Nat → List Nat) : Prop :=
  σ 0 = s0 ∧ ∀ i, Reach nodes i → ∀ p ∈ nx nodes i, σ p.2 = flipS (σ i) (ns.idxOf p.1)
def Cons (ns : List (List Nat)) (s0 : List Nat) (nodes : List (List Turn)) : Prop := ∃ σ, Val ns s0 nodes σ
structure Srch (ns : List (List Nat)) (s0 : List Nat) (nodes : List (List Turn)) (here : Option Nat) (ρ : Nat → List Nat) (seen wait : List Nat) : Prop where
  nd : seen.Nodup
  ws : ∀ i ∈ wait, i ∈ seen
  z : 0 ∈ seen
  r0 : ρ 0 = s0
  re : ∀ i ∈ seen, Reach nodes i ∧ Bits (ρ i) ∧ (ρ i).length = ns.length ∧ ∀ σ, Val ns s0 nodes σ → σ i = ρ i
  cl : ∀ i ∈ seen, i ∉ wait → here ≠ some i → ∀ p ∈ nx nodes i, p.2 ∈ seen ∧ ρ p.2 = flipS (ρ i) (ns.idxOf p.1)
section
variable {ns : List (List Nat)} {s0 : List Nat} {nodes : List (List Turn)} (w : Wf ns s0 nodes)
include w
theorem Wf.reach {i : Nat} (h : Reach nodes i) : i < nodes.length := by
  cases h with
  | zero => exact w.n0
  | step a b => exact (w.tu _ _ b).2
theorem Wf.first : Srch ns s0 nodes none (fun _ => s0) [0] [0] :=
  ⟨by simp, fun i hi => hi, by simp, rfl, fun i hi => by rw [List.mem_singleton.mp hi]; exact ⟨.zero, w.sb, w.sl, fun σ h => h.1⟩, fun i hi h => absurd hi h⟩
theorem Srch.le {h : Option Nat} {ρ : Nat → List Nat} {seen wait : List Nat} (m : Srch ns s0 nodes h ρ seen wait) : seen.length ≤ nodes.length :=
  nodup_le _ _ m.nd fun i hi => w.reach (m.re i hi).1
theorem Srch.at {h : Option Nat} {ρ : Nat → List Nat} {seen wait : List Nat} (m : Srch ns s0 nodes h ρ seen wait) {here : Nat} (hh : here ∈ seen) {p : Turn} (hp : p ∈ nx nodes here) :
    p.2 < nodes.length ∧ ns.idxOf p.1 < ns.length ∧ ns[ns.idxOf p.1]? = some p.1 ∧ Bits (flipS (ρ here) (ns.idxOf p.1)) ∧ (flipS (ρ here) (ns.idxOf p.1)).length = ns.length := by
  obtain ⟨h1, h2⟩ := w.tu _ _ hp
  have hi := List.idxOf_lt_length_of_mem h1
  obtain ⟨_, b, l, _⟩ := m.re _ hh
  refine ⟨h2, hi, ?_, flipS_bits b, by rw [flipS_len (by omega)]; exact l⟩
  rw [List.getElem?_eq_getElem hi, List.getElem_idxOf]
theorem Srch.add {ρ : Nat → List Nat} {seen wait : List Nat} {here : Nat} (m : Srch ns s0 nodes (some here) ρ seen wait) (hh : here ∈ seen) {p : Turn} (hp : p ∈ nx nodes here) (hn : p.2 ∉ seen) :
    Srch ns s0 nodes (some here) (fun j => if j = p.2 then flipS (ρ here) (ns.idxOf p.1) else ρ j) (seen ++ [p.2]) (wait ++ [p.2]) := by
  have old : ∀ i ∈ seen, (if i = p.2 then flipS (ρ here) (ns.idxOf p.1) else ρ i) = ρ i := fun i hi => if_neg (show ¬ i = p.2 from fun e => hn (by rw [← e]; exact hi))
  obtain ⟨hr, hb, hl, hf⟩ := m.re _ hh
  obtain ⟨_, _, _, a4, a5⟩ := m.at w hh hp
  refine ⟨?_, ?_, List.mem_append_left _ m.z, (old 0 m.z).trans m.r0, ?_, ?_⟩
  · rw [List.nodup_append]
    exact ⟨m.nd, by simp, fun x hx y hy => by simp at hy; subst hy; intro e; subst e; exact hn hx⟩
  · intro i hi
    rcases List.mem_append.mp hi with hi | hi
    · exact List.mem_append_left _ (m.ws i hi)
    · exact List.mem_append_right _ hi
  · intro i hi
    rcases List.mem_append.mp hi with hi | hi
    · skip
      rw [old i hi]; exact m.re i hi
    · rw [List.mem_singleton.mp hi]
      rw [if_pos rfl]
      exact ⟨.step hr hp, a4, a5, fun σ v => by rw [v.2 _ hr _ hp, hf σ v]⟩
  · intro i hi hw hne q hq
    rcases List.mem_append.mp hi with hi | hi
    · obtain ⟨c1, c2⟩ := m.cl i hi (fun z => hw (List.mem_append_left _ z)) hne q hq
      rw [old i hi, old _ c1]
      exact ⟨List.mem_append_left _ c1, c2⟩
    · exact absurd (List.mem_append_right _ hi) hw
theorem Srch.bad {ρ : Nat → List Nat} {seen wait : List Nat} {h : Option Nat} {here : Nat} (m : Srch ns s0 nodes h ρ seen wait) (hh : here ∈ seen) {p : Turn} (hp : p ∈ nx nodes here) (hs : p.2 ∈ seen) (ne : ρ p.2 ≠ flipS (ρ here) (ns.idxOf p.1)) : ¬ Cons ns s0 nodes := by
  rintro ⟨σ, v⟩
  obtain ⟨hr, _, _, hf⟩ := m.re _ hh
  apply ne
  rw [← (m.re _ hs).2.2.2 σ v, ← hf σ v]
  exact v.2 _ hr _ hp
theorem Srch.close {ρ : Nat → List Nat} {seen wait : List Nat} {here : Nat} (m : Srch ns s0 nodes (some here) ρ seen wait) (h : ∀ p ∈ nx nodes here, p.2 ∈ seen ∧ ρ p.2 = flipS (ρ here) (ns.idxOf p.1)) : Srch ns s0 nodes none ρ seen wait :=
  ⟨m.nd, m.ws, m.z, m.r0, m.re, fun i hi hw _ => if e : i = here then e ▸ h else m.cl i hi hw fun z => e (Option.some.inj z).symm⟩
theorem Srch.open' {ρ : Nat → List Nat} {seen wait wait' : List Nat} {here : Nat} (m : Srch ns s0 nodes none ρ seen wait) (h1 : ∀ i ∈ wait', i ∈ wait) (h2 : ∀ i ∈ wait, i ∈ wait' ∨ i = here) : Srch ns s0 nodes (some here) ρ seen wait' :=
  ⟨m.nd, fun i hi => m.ws i (h1 i hi), m.z, m.r0, m.re, fun i hi hw hne => m.cl i hi (fun z => (h2 i z).elim hw fun e => hne (e ▸ rfl)) (by simp)⟩
theorem Srch.all {ρ : Nat → List Nat} {seen : List Nat} (m : Srch ns s0 nodes none ρ seen []) : Val ns s0 nodes ρ ∧ ∀ i, i ∈ seen ↔ Reach nodes i := by
  have rs : ∀ i, Reach nodes i → i ∈ seen := fun i h => by
    induction h with
    | zero => exact m.z
    | step a b ih => exact (m.cl _ ih (by simp) (by simp) _ b).1
  exact ⟨⟨m.r0, fun i hi p hp => (m.cl i (rs i hi) (by simp) (by simp) p hp).2⟩, fun i => ⟨fun h => (m.re i h).1, rs i⟩⟩
end
theorem sat_whileR {Z R : Type} {fc : Z → Res Bool} {f : Z → Res (Fl Z R)} {I : Z → Prop} {E : Z → Prop} {P : R → Prop} {μ : Z → Nat} (h : ∀ z, I z → (fc z = .ok false ∧ E z) ∨ (fc z = .ok true ∧ Sat (f z) (fun o => (∃ z', o = .nx z' ∧ I z' ∧ μ z' < μ z) ∨ ∃ r, o = .rt r ∧ P r))) :
    ∀ (n : Nat) (z0 : Z), I z0 → μ z0 < n → Sat (whileF n z0 fc f) (fun o => (∃ z, o = .nx z ∧ I z ∧ E z) ∨ ∃ r, o = .rt r ∧ P r)
  | 0, _, _, hm => absurd hm (Nat.not_lt_zero _)
  | n + 1, z0, h0, hm => by
    rcases h z0 h0 with ⟨e, q⟩ | ⟨e, q⟩
    · show Sat (rb (fc z0) _) _
      rw [e]; exact ⟨_, rfl, .inl ⟨z0, rfl, h0, q⟩⟩
    · show Sat (rb (fc z0) _) _
      rw [e]
      show Sat (rb (f z0) _) _
      refine sat_rb q fun o ho => ?_
      rcases ho with ⟨z', rfl, i, m⟩ | ⟨r, rfl, p⟩
      · exact sat_whileR h n z' i (by omega)
      · exact ⟨_, rfl, .inr ⟨r, rfl, p⟩⟩
theorem sat_forLr' {Z R : Type} {f : Z → D → Res (Fl Z R)} {I : Nat → Z → Prop} {P : R → Prop} : ∀ (ds : List D) (z0 : Z) (n : Nat), I n z0 → (∀ i z d, ds[i]? = some d → I (n + i) z → Sat (f z d) (fun o => (∃ z', o = .nx z' ∧ I (n + i + 1) z') ∨ ∃ r, o = .rt r ∧ P r)) → Sat (forL ds z0 f) (fun o => (∃ z', o = .nx z' ∧ I (n + ds.length) z') ∨ ∃ r, o = .rt r ∧ P r)
  | [], z0, n, h0, _ => ⟨_, rfl, .inl ⟨z0, rfl, h0⟩⟩
  | d :: r, z0, n, h0, h => by
    refine sat_rb (h 0 z0 d rfl h0) fun o hz => ?_
    rcases hz with ⟨z, rfl, hz⟩ | ⟨x, rfl, hx⟩
    · have := sat_forLr' (I := I) (P := P) r z (n + 1) hz fun i z d e hi => by
        have := h (i + 1) z d (by simpa using e) (by rw [show n + (i + 1) = n + 1 + i by omega]; exact hi)
        rwa [show n + (i + 1) = n + 1 + i by omega] at this
      rwa [show n + 1 + r.length = n + (d :: r).length by simp; omega] at this
    · exact ⟨_, rfl, .inr ⟨x, rfl, hx⟩⟩
end W

namespace W
open PySem VL
/-! rows_of: a dict where the turns agree, else none -/
theorem bturn_ok {ns : List (List Nat)} {s0 : List Nat} {nodes : List (List Turn)} (w : Wf ns s0 nodes) {s n : List Nat} (b : Bits s) (hl : s.length = ns.length) (hn : n ∈ ns) :
    m_behind_turn (.lst (dn ns)) (.str s) (.str n) = .ok (.str (flipS s (ns.idxOf n))) := by
  have hi := List.idxOf_lt_length_of_mem hn
  have := behind_ok w.nd (s := s) (i := ns.idxOf n) b hl hi (by have := w.nl; omega)
  rw [List.getElem_idxOf] at this
  exact this
theorem ne_strs (a b : List Nat) : neD (.str a) (.str b) = some (!(decide (a = b))) := by
  show some _ = some _
  congr 1
  by_cases h : a = b <;> simp [D.eqv, h]
theorem rows_gen {ns : List (List Nat)} {s0 : List Nat} {nodes : List (List Turn)} (w : Wf ns s0 nodes) :
    Sat (m_rows_of (.lst (dn ns)) (.str s0) (NL nodes)) (fun d => (∃ (ρ : Nat → List Nat) (seen : List Nat), d = .dct false (FD ρ seen) ∧ Val ns s0 nodes ρ ∧ seen.Nodup ∧ ∀ i, i ∈ seen ↔ Reach nodes i) ∨ (d = .non ∧ ¬ Cons ns s0 nodes)) := by
  unfold m_rows_of
  have nn := w.nn
  refine sat_if (fun _ => ?_) (fun h => absurd rfl h)
  let I : (List D × List (D × D)) → Prop := fun z => ∃ ρ seen wait, z.1 = wD wait ∧ z.2 = FD ρ seen ∧ Srch ns s0 nodes none ρ seen wait ∧ 2 * (nodes.length - seen.length) + wait.length ≤ 2 * nodes.length
  let μ : (List D × List (D × D)) → Nat := fun z => 2 * (nodes.length - z.2.length) + z.1.length
  refine sat_rb (sat_whileR (I := I) (E := fun z => z.1 = []) (P := fun r => r = .non ∧ ¬ Cons ns s0 nodes) (μ := μ) (fun z hz => ?_) _ _ ?_ ?_) fun o ho => ?_
  · obtain ⟨ρ, seen, wait, e1, e2, m, hbd⟩ := hz
    obtain ⟨z1, z2⟩ := z
    dsimp only at e1 e2
    subst e1 e2
    by_cases hw : wait = []
    · subst hw
      exact .inl ⟨of_sat (sat_ob (ne_nil rfl (Nat.zero_le _)) (sat_ok rfl)), rfl⟩
    · refine .inr ⟨of_sat (sat_ob (ne_nil (wD_plain _) (wD_dep _)) (sat_ok ?_)), ?_⟩
      · cases wait with
        | nil => exact absurd rfl hw
        | cons _ _ => rfl
      obtain ⟨w0, here, rfl⟩ : ∃ w0 h, wait = w0 ++ [h] := ⟨wait.dropLast, wait.getLast hw, (List.dropLast_concat_getLast hw).symm⟩
      have hs : here ∈ seen := m.ws _ (by simp)
      have hlt := w.reach (m.re _ hs).1
      have hp : popL (wD (w0 ++ [here])) = some (.int (here : Nat), wD w0) := by
        unfold popL wD
        simp
      refine sat_ob hp (sat_ob (node_at hlt) (sat_ob (c := (nx nodes here).map tD) rfl ?_))
      have m0 : Srch ns s0 nodes (some here) ρ seen w0 := m.open' w (fun i hi => by simp [hi]) fun i hi => by
        rcases List.mem_append.mp hi with z | z
        · exact .inl z
        · exact .inr (List.mem_singleton.mp z)
      have l0 := m.le w
      simp only [List.length_append, List.length_singleton] at hbd
      let J : Nat → (List (D × D) × List D) → Prop := fun n z => ∃ ρ' se wa, z.1 = FD ρ' se ∧ z.2 = wD wa ∧ Srch ns s0 nodes (some here) ρ' se wa ∧ here ∈ se ∧ (∀ j, j < n → ∀ p, (nx nodes here)[j]? = some p → p.2 ∈ se ∧ ρ' p.2 = flipS (ρ' here) (ns.idxOf p.1)) ∧ 2 * (nodes.length - se.length) + wa.length ≤ 2 * (nodes.length - seen.length) + w0.length
      refine sat_rb (sat_forLr' (I := J) (P := fun r => r = .non ∧ ¬ Cons ns s0 nodes) ((nx nodes here).map tD) _ 0 ⟨ρ, seen, w0, rfl, rfl, m0, hs, fun j hj => absurd hj (Nat.not_lt_zero _), Nat.le_refl _⟩ fun n z d hd hJ => ?_) fun o ho => ?_
      · rw [Nat.zero_add] at hJ ⊢
        obtain ⟨z1, z2⟩ := z
        obtain ⟨ρ', se, wa, e1, e2, mm, hh, hn, hm⟩ := hJ
        dsimp only at e1 e2
        subst e1 e2
        rw [List.getElem?_map] at hd
        cases ep : (nx nodes here)[n]? with
        | none => rw [ep] at hd; cases hd
        | some p =>
          rw [ep] at hd
          cases hd
          have pm : p ∈ nx nodes here := List.mem_of_getElem? ep
          obtain ⟨hr, hb, hbl, _⟩ := mm.re _ hh
          have hnm := (w.tu _ _ pm).1
          have lse := mm.le w
          refine sat_ob (c := (.str p.1, .int (p.2 : Nat))) rfl (sat_ob (fd_get hh) (sat_rbe (bturn_ok w hb hbl hnm) ?_))
          refine sat_ob fd_in (sat_if (fun hnot => ?_) fun hin => ?_)
          · have hnot : p.2 ∉ se := by simpa using hnot
            have ma := mm.add w hh pm hnot
            have la := ma.le w
            have wl : wa.length ≤ 2 * nodes.length := by omega
            refine sat_ob (fd_up hnot (by omega)) (sat_ob (ap_l (by simp [wD]; omega)) (sat_ok (.inl ⟨_, rfl, _, se ++ [p.2], wa ++ [p.2], rfl, by simp [wD], ma, List.mem_append_left _ hh, ?_, ?_⟩)))
            · intro j hj q hq
              have hne : here ≠ p.2 := fun e => hnot (e ▸ hh)
              by_cases e : j < n
              · obtain ⟨a1, a2⟩ := hn j e q hq
                have : q.2 ≠ p.2 := fun e => hnot (e ▸ a1)
                refine ⟨List.mem_append_left _ a1, ?_⟩
                rw [if_neg this, if_neg hne]; exact a2
              · have : j = n := by omega
                subst this
                rw [ep] at hq; cases hq
                refine ⟨List.mem_append_right _ (by simp), ?_⟩
                rw [if_pos rfl, if_neg hne]
            · simp only [List.length_append, List.length_singleton] at la ⊢
              omega
          · have hin : p.2 ∈ se := by simpa using hin
            refine sat_ob (fd_get hin) (sat_ob (ne_strs _ _) (sat_if (fun h => ?_) fun h => ?_))
            · have : ρ' p.2 ≠ flipS (ρ' here) (ns.idxOf p.1) := by simpa using h
              exact sat_ok (.inr ⟨_, rfl, rfl, mm.bad w hh pm hin this⟩)
            · have : ρ' p.2 = flipS (ρ' here) (ns.idxOf p.1) := by simpa using h
              refine sat_ok (.inl ⟨_, rfl, ρ', se, wa, rfl, rfl, mm, hh, fun j hj q hq => ?_, hm⟩)
              by_cases e : j < n
              · exact hn j e q hq
              · have : j = n := by omega
                subst this
                rw [ep] at hq; cases hq
                exact ⟨hin, by assumption⟩
      · rcases ho with ⟨z', rfl, ρ', se, wa, e1, e2, mm, hh, hn, hm⟩ | ⟨r, rfl, hr⟩
        · obtain ⟨z1, z2⟩ := z'
          dsimp only at e1 e2
          subst e1 e2
          refine sat_ok (.inl ⟨_, rfl, ⟨ρ', se, wa, rfl, rfl, mm.close w fun p hpm => ?_, by omega⟩, ?_⟩)
          · obtain ⟨j, hj, ej⟩ := List.getElem_of_mem hpm
            exact hn j (by simpa using hj) p (by rw [List.getElem?_eq_getElem hj, ej])
          · show 2 * (nodes.length - (FD ρ' se).length) + (wD wa).length < 2 * (nodes.length - (FD ρ seen).length) + (wD (w0 ++ [here])).length
            simp only [wD, FD, List.length_map, List.length_append, List.length_singleton] at *
            omega
        · exact sat_ok (.inr ⟨r, rfl, hr⟩)
  · exact ⟨fun _ => s0, [0], [0], rfl, rfl, w.first, by have := w.n0; simp; omega⟩
  · show 2 * (nodes.length - 1) + 1 < FU
    unfold FU; omega
  · rcases ho with ⟨z, rfl, ⟨ρ, seen, wait, e1, e2, m, _⟩, e3⟩ | ⟨r, rfl, hr⟩
    · have hw : wait = [] := by
        rw [e3] at e1
        cases wait with
        | nil => rfl
        | cons _ _ => cases e1
      subst hw
      obtain ⟨v, rs⟩ := m.all w
      exact sat_ok (.inl ⟨ρ, seen, by rw [e2], v, m.nd, rs⟩)
    · exact sat_ok (.inr hr)
end W

namespace W
open PySem VL
/-! _law_signs: a list where the turns agree, else none -/
def sheetS (ni : Nat) (ns : List (List Nat)) (s0 : List Nat) (nodes : List (List Turn)) : D := .tup [.lst (dn (ns.take ni)), .lst (dn (ns.drop ni)), .str s0, NL nodes]
theorem names_catS {ni : Nat} {ns : List (List Nat)} (h : ns.length ≤ 100) : catD (.lst (dn (ns.take ni))) (.lst (dn (ns.drop ni))) = some (dn ns) := by
  have : dn (ns.take ni) ++ dn (ns.drop ni) = dn ns := by simp only [dn, ← List.map_append, List.take_append_drop]
  show (if _ then _ else none) = _
  rw [this, if_pos (by simp [dn]; omega)]
def FL (ρ : Nat → List Nat) (n : Nat) (seen : List Nat) : List D := (List.range n).map fun i => if i ∈ seen then D.str (ρ i) else .non
theorem fl_get {ρ : Nat → List Nat} {n : Nat} {seen : List Nat} {i : Nat} (h : i < n) : (FL ρ n seen)[i]? = some (if i ∈ seen then D.str (ρ i) else .non) := by
  simp [FL, h]
theorem fl_len (ρ : Nat → List Nat) (n : Nat) (seen : List Nat) : (FL ρ n seen).length = n := by simp [FL]
theorem fl_up {ρ : Nat → List Nat} {n : Nat} {seen : List Nat} {i : Nat} {s : List Nat} (hn : i ∉ seen) : (FL ρ n seen).set i (.str s) = FL (fun j => if j = i then s else ρ j) n (seen ++ [i]) := by
  refine List.ext_getElem? fun j => ?_
  by_cases hj : j < n
  · rw [List.getElem?_set, fl_get hj, fl_get hj]
    by_cases e : i = j
    · subst e
      simp [fl_len, hj]
    · have e' : ¬ j = i := fun z => e z.symm
      simp [e, e']
  · rw [List.getElem?_eq_none (by simp [fl_len]; omega), List.getElem?_eq_none (by simp [fl_len]; omega)]
theorem sheetS3 {ni : Nat} {ns : List (List Nat)} {s0 : List Nat} {nodes : List (List Turn)} : ixD (sheetS ni ns s0 nodes) (.int 3) = some (NL nodes) := rfl
theorem drop_cons' {l : List Nat} {a here : Nat} (h : l[a]? = some here) : l.drop a = here :: l.drop (a + 1) := by
  obtain ⟨h1, h2⟩ := List.getElem?_eq_some_iff.mp h
  rw [List.drop_eq_getElem_cons h1, h2]
theorem lsigns_gen {ni : Nat} {ns : List (List Nat)} {s0 : List Nat} {nodes : List (List Turn)} (w : Wf ns s0 nodes) :
    Sat (m__law_signs (sheetS ni ns s0 nodes)) (fun d => (∃ (ρ : Nat → List Nat) (seen : List Nat), d = .lst (FL ρ nodes.length seen) ∧ Val ns s0 nodes ρ ∧ ∀ i, i ∈ seen ↔ Reach nodes i) ∨ (d = .non ∧ ¬ Cons ns s0 nodes)) := by
  unfold m__law_signs
  have nn := w.nn
  have n0 := w.n0
  refine sat_ob (c := .lst (dn (ns.take ni))) rfl (sat_ob (c := .lst (dn (ns.drop ni))) rfl (sat_ob (names_catS w.nl) (sat_ob sheetS3 (sat_ob (c := D.int nodes.length) (by show some (D.int _) = _; simp [nD]) ?_))))
  refine sat_ob (c := List.replicate nodes.length .non) ?_ (sat_ob (c := .str s0) rfl (sat_ob (c := FL (fun _ => s0) nodes.length [0]) ?_ ?_))
  · unfold repL
    simp only [List.length_singleton, Nat.one_mul]
    rw [if_pos (by omega)]
    simp
  · have e := set_l (l := List.replicate nodes.length D.non) (i := 0) (d := .str s0) (by simp; omega)
    refine e.trans (congrArg some ?_)
    have : List.replicate nodes.length D.non = FL (fun _ => s0) nodes.length [] := by
      refine List.ext_getElem? fun j => ?_
      by_cases h : j < nodes.length
      · simp [FL, h]
      · simp [FL, h]
    rw [this, fl_up (by simp)]
    congr 1
    funext j; split <;> rfl
  let I : (D × List D × List D) → Prop := fun z => ∃ (a : Nat) (ρ : Nat → List Nat) (seen : List Nat), z.1 = .int (a : Nat) ∧ z.2.1 = FL ρ nodes.length seen ∧ z.2.2 = wD seen ∧ Srch ns s0 nodes none ρ seen (seen.drop a)
  let E : (D × List D × List D) → Prop := fun z => ∃ a : Nat, z.1 = .int (a : Nat) ∧ z.2.2.length ≤ a
  let μ : (D × List D × List D) → Nat := fun z => match z.1 with | .int a => nodes.length - a.toNat | _ => 0
  refine sat_rb (sat_whileR (I := I) (E := E) (P := fun r => r = .non ∧ ¬ Cons ns s0 nodes) (μ := μ) (fun z hz => ?_) _ _ ?_ ?_) fun o ho => ?_
  · obtain ⟨a, ρ, seen, e1, e2, e3, m⟩ := hz
    obtain ⟨z1, z2, z3⟩ := z
    dsimp only at e1 e2 e3
    subst e1 e2 e3
    have lse := m.le w
    have hl : (wD seen).length = seen.length := by simp [wD]
    by_cases ha : a < seen.length
    · refine .inr ⟨of_sat (sat_ob len_l (sat_ob (c := decide ((a : Int) < (wD seen).length)) rfl (sat_ok (decide_eq_true (by omega))))), ?_⟩
      have hs : seen[a]? = some seen[a] := List.getElem?_eq_getElem ha
      have hm : seen[a] ∈ seen := List.getElem_mem ha
      generalize seen[a] = here at hs hm
      have hlt := w.reach (m.re _ hm).1
      have dr := drop_cons' hs
      have m0 : Srch ns s0 nodes (some here) ρ seen (seen.drop (a + 1)) := m.open' w (fun i hi => by rw [dr]; exact List.mem_cons_of_mem _ hi) fun i hi => by
        rw [dr] at hi
        rcases List.mem_cons.mp hi with z | z
        · exact .inr z
        · exact .inl z
      refine sat_ob (ix_l (d := .int (here : Nat)) (by simp [wD, hs])) (sat_ob (c := D.int (a + 1)) rfl (sat_ob sheetS3 (sat_ob (node_at (by omega)) (sat_ob (c := (nx nodes here).map tD) rfl ?_))))
      let J : Nat → (List D × List D) → Prop := fun n z => ∃ ρ' se, z.1 = FL ρ' nodes.length se ∧ z.2 = wD se ∧ Srch ns s0 nodes (some here) ρ' se (se.drop (a + 1)) ∧ se[a]? = some here ∧ ∀ j, j < n → ∀ p, (nx nodes here)[j]? = some p → p.2 ∈ se ∧ ρ' p.2 = flipS (ρ' here) (ns.idxOf p.1)
      refine sat_rb (sat_forLr' (I := J) (P := fun r => r = .non ∧ ¬ Cons ns s0 nodes) ((nx nodes here).map tD) _ 0 ⟨ρ, seen, rfl, rfl, m0, hs, fun j hj => absurd hj (Nat.not_lt_zero _)⟩ fun n z d hd hJ => ?_) fun o ho => ?_
      · rw [Nat.zero_add] at hJ ⊢
        obtain ⟨z1, z2⟩ := z
        obtain ⟨ρ', se, e1, e2, mm, hh, hn⟩ := hJ
        dsimp only at e1 e2
        subst e1 e2
        rw [List.getElem?_map] at hd
        cases ep : (nx nodes here)[n]? with
        | none => rw [ep] at hd; cases hd
        | some p =>
          rw [ep] at hd
          cases hd
          have pm : p ∈ nx nodes here := List.mem_of_getElem? ep
          have hin : here ∈ se := List.mem_of_getElem? hh
          obtain ⟨hr, hb, hbl, _⟩ := mm.re _ hin
          obtain ⟨plt, il, iat, _, _⟩ := mm.at w hin pm
          have lse2 := mm.le w
          have nl := w.nl
          refine sat_ob (c := (.str p.1, .int (p.2 : Nat))) rfl (sat_ob (ix_l (d := .str (ρ' here)) (by rw [fl_get (by omega), if_pos hin])) (sat_ob (c := dn ns) rfl (sat_ob (c := .int ((ns.idxOf p.1 : Nat) : Int)) ?_ (sat_rbe (r := .str (flipS (ρ' here) (ns.idxOf p.1))) ?_ ?_))))
          · have := index_ok w.nd il
            rw [List.getElem_idxOf] at this
            exact this
          · exact flip_ok hb (by omega) (by omega)
          have step : ∀ ρ2 se', p.2 ∈ se' → Srch ns s0 nodes (some here) ρ2 se' (se'.drop (a + 1)) → se'[a]? = some here → ρ2 here = ρ' here → (∀ j, j < n → ∀ q, (nx nodes here)[j]? = some q → q.2 ∈ se' ∧ ρ2 q.2 = flipS (ρ2 here) (ns.idxOf q.1)) →
              Sat (ob (ixD (.lst (FL ρ2 nodes.length se')) (.int (p.2 : Nat))) fun t34 => ob (neD t34 (.str (flipS (ρ' here) (ns.idxOf p.1)))) fun t33 => if t33 = true then .ok (.rt D.non) else .ok (.nx (FL ρ2 nodes.length se', wD se'))) (fun o => (∃ z', o = Fl.nx z' ∧ J (n + 1) z') ∨ ∃ r, o = .rt r ∧ r = .non ∧ ¬ Cons ns s0 nodes) := fun ρ2 se' h1 h2 h3 eh h4 => by
            have hin2 : here ∈ se' := List.mem_of_getElem? h3
            refine sat_ob (ix_l (d := .str (ρ2 p.2)) (by rw [fl_get (by omega), if_pos h1])) (sat_ob (ne_strs _ _) (sat_if (fun h => ?_) fun h => ?_))
            · have : ρ2 p.2 ≠ flipS (ρ2 here) (ns.idxOf p.1) := by rw [eh]; simpa using h
              exact sat_ok (.inr ⟨_, rfl, rfl, h2.bad w hin2 pm h1 this⟩)
            · have : ρ2 p.2 = flipS (ρ2 here) (ns.idxOf p.1) := by rw [eh]; simpa using h
              refine sat_ok (.inl ⟨_, rfl, ρ2, se', rfl, rfl, h2, h3, fun j hj q hq => ?_⟩)
              by_cases e : j < n
              · exact h4 j e q hq
              · have : j = n := by omega
                subst this
                rw [ep] at hq; cases hq
                exact ⟨h1, by assumption⟩
          by_cases hp : p.2 ∈ se
          · refine sat_rbe (r := (FL ρ' nodes.length se, wD se)) (of_sat (sat_ob (ix_l (d := .str (ρ' p.2)) (by rw [fl_get (by omega), if_pos hp])) (sat_ob (c := false) rfl (sat_ok rfl)))) ?_
            exact step ρ' se hp mm hh rfl hn
          · have hne : here ≠ p.2 := fun e => hp (e ▸ hin)
            refine sat_rbe (r := (FL (fun j => if j = p.2 then flipS (ρ' here) (ns.idxOf p.1) else ρ' j) nodes.length (se ++ [p.2]), wD (se ++ [p.2]))) (of_sat (sat_ob (ix_l (d := .non) (by rw [fl_get (by omega), if_neg hp])) (sat_ob (c := true) rfl (sat_ob (set_l (by simp [FL]; omega)) (sat_ob (ap_l (by simp [wD]; omega)) (sat_ok ?_)))))) ?_
            · show (_, _) = _
              rw [fl_up hp]; simp [wD]
            · have al : a < se.length := by
                rcases Nat.lt_or_ge a se.length with h | h
                · exact h
                · rw [List.getElem?_eq_none h] at hh; cases hh
              have ma := mm.add w hin pm hp
              refine step _ _ (by simp) ?_ (by rw [List.getElem?_append_left al]; exact hh) (if_neg hne) fun j hj q hq => ?_
              · rw [List.drop_append_of_le_length (by omega)]
                exact ma
              · obtain ⟨a1, a2⟩ := hn j hj q hq
                have : q.2 ≠ p.2 := fun e => hp (e ▸ a1)
                refine ⟨List.mem_append_left _ a1, ?_⟩
                rw [if_neg this, if_neg hne]; exact a2
      · rcases ho with ⟨z', rfl, ρ', se, e1, e2, mm, hh, hn⟩ | ⟨r, rfl, hr⟩
        · obtain ⟨z1, z2⟩ := z'
          dsimp only at e1 e2
          subst e1 e2
          refine sat_ok (.inl ⟨_, rfl, ⟨a + 1, ρ', se, rfl, rfl, rfl, mm.close w fun p hpm => ?_⟩, ?_⟩)
          · obtain ⟨j, hj, ej⟩ := List.getElem_of_mem hpm
            exact hn j (by simpa using hj) p (by rw [List.getElem?_eq_getElem hj, ej])
          · show nodes.length - ((a : Int) + 1).toNat < nodes.length - (a : Int).toNat
            omega
        · exact sat_ok (.inr ⟨r, rfl, hr⟩)
    · exact .inl ⟨of_sat (sat_ob len_l (sat_ob (c := decide ((a : Int) < (wD seen).length)) rfl (sat_ok (decide_eq_false (by omega))))), a, rfl, by show (wD seen).length ≤ a; omega⟩
  · exact ⟨0, fun _ => s0, [0], rfl, rfl, rfl, w.first⟩
  · show nodes.length - (0 : Int).toNat < FU
    unfold FU; omega
  · rcases ho with ⟨z, rfl, ⟨a, ρ, seen, e1, e2, e3, m⟩, b, e4, h5⟩ | ⟨r, rfl, hr⟩
    · rw [e1] at e4
      have hab : a = b := by injection e4 with e; omega
      subst hab
      rw [e3] at h5
      have h5 : seen.length ≤ a := by simpa [wD] using h5
      rw [List.drop_eq_nil_of_le h5] at m
      obtain ⟨v, rs⟩ := m.all w
      exact sat_ok (.inl ⟨ρ, seen, by rw [e2], v, rs⟩)
    · exact sat_ok (.inr hr)
end W

namespace W
open PySem VL SSN PyProof.Rows
/-! is_sheet of what has a sheet's form -/
theorem low_mem {c : Nat} (h : 97 ≤ c ∧ c ≤ 122) : c ∈ q_abcdefghijklmnopqrstuvwxyz := by
  simp only [List.mem_cons, List.not_mem_nil, or_false]
  omega
theorem is_nameS {w : List Nat} (h : Word w) : m_is_name (.str w) = .ok (.bl true) := by
  have h0 := h.l0
  have h1 := h.l1
  unfold m_is_name
  simp only [sx_isKs, sx_ob, sx_asB, Bool.not_true, Bool.false_eq_true, if_false, len_s (show w.length ≤ 16777216 by omega), sx_lt]
  rw [show decide ((0 : Int) < (w.length : Int)) = true by simp; omega, show decide ((w.length : Int) < 9) = true by simp; omega]
  simp only [sx_rb, if_true, Bool.not_true, Bool.false_eq_true, if_false, strLD_eq (show w.length ≤ 1000 by omega), sx_ob]
  rw [fmR_eq (g := fun _ => none) _ fun d hd => by
    obtain ⟨c, hc, rfl⟩ := List.mem_map.mp hd
    have : notInD (chD c) (.str q_abcdefghijklmnopqrstuvwxyz) = some false := by
      have : inD (chD c) (.str q_abcdefghijklmnopqrstuvwxyz) = some true := by
        show some (decide (c ∈ q_abcdefghijklmnopqrstuvwxyz)) = _
        rw [decide_eq_true (low_mem (h.lo c hc))]
      simp [notInD, this]
    rw [this]; rfl]
  have : (w.map chD).filterMap (fun _ => (none : Option D)) = [] := by simp
  rw [this]
  rfl
theorem are_namesS {l : List (List Nat)} (h : ∀ w ∈ l, Word w) : m_are_names (.lst (dn l)) = .ok (.bl true) := by
  unfold m_are_names
  simp only [sx_isKl, sx_ob, sx_asB, if_true, sx_asL]
  rw [fmR_eq (g := fun _ => none) (dn l) fun d hd => by
    obtain ⟨w, hw, rfl⟩ := List.mem_map.mp hd
    rw [is_nameS (h w hw)]
    rfl]
  have : (dn l).filterMap (fun _ => (none : Option D)) = [] := by simp
  rw [this]
  rfl
theorem are_signsS {s : List Nat} (h : Bits s) (hl : s.length ≤ 1000) : m_are_signs (.str s) (.int (s.length : Nat)) = .ok (.bl true) := by
  unfold m_are_signs
  simp only [sx_isKs, sx_ob, sx_asB, Bool.not_true, Bool.false_eq_true, if_false, len_s (show s.length ≤ 16777216 by omega), sx_nei, sx_rb]
  rw [show (!((s.length : Int) == (s.length : Int))) = false by simp]
  simp only [Bool.false_eq_true, if_false, strLD_eq hl, sx_ob]
  rw [fmR_eq (g := fun _ => none) _ fun d hd => by
    obtain ⟨c, hc, rfl⟩ := List.mem_map.mp hd
    have : notInD (chD c) (.str q_01) = some false := by
      rcases h c hc with rfl | rfl <;> rfl
    rw [this]; rfl]
  have : (s.map chD).filterMap (fun _ => (none : Option D)) = [] := by simp
  rw [this]
  rfl
theorem is_wholeS (n : Int) : m_is_whole (.int n) = .ok (.bl true) := rfl
theorem sx_lentS (l : List D) : lenD (.tup l) = some (.int l.length) := rfl
theorem is_turnS {ns : List (List Nat)} {p : Turn} {n : Nat} (h1 : p.1 ∈ ns) (h2 : p.2 < n) : m_is_turn (tD p) (.lst (dn ns)) (.int (n : Nat)) = .ok (.bl true) := by
  unfold m_is_turn tD
  simp only [sx_isKt, sx_ob, sx_asB, Bool.not_true, Bool.false_eq_true, if_false, sx_lentS, List.length_cons, List.length_nil, sx_nei, sx_rb, sx_t0, sx_t1, sx_isKs, in_dn, decide_eq_true h1, if_true, is_wholeS, sx_le, sx_lt]
  rw [show decide ((0 : Int) ≤ (p.2 : Int)) = true by simp, show decide ((p.2 : Int) < (n : Int)) = true by simp; omega]
  rfl
def dm (l : List (List Nat)) : List (D × D) := l.map fun n => (D.str n, D.bl true)
theorem dm_any (n : List Nat) : ∀ l : List (List Nat), (dm l).any (fun kv => D.eqv kv.1 (.str n)) = decide (n ∈ l)
  | [] => rfl
  | m :: l => by
    have ih := dm_any n l
    simp only [dm, List.map_cons, List.any_cons] at ih ⊢
    rw [ih]
    by_cases e : m = n
    · subst e; simp [D.eqv]
    · have e' : ¬ n = m := fun z => e z.symm
      simp [D.eqv, e, e']
theorem dm_find (n : List Nat) (l : List (List Nat)) : (findD (dm l) (.str n)).isSome = decide (n ∈ l) := by
  unfold findD
  rw [← dm_any n l]
  induction dm l with
  | nil => rfl
  | cons a r ih =>
    rw [List.find?_cons, List.any_cons]
    by_cases e : D.eqv a.1 (.str n) = true
    · simp [e]
    · have e : D.eqv a.1 (.str n) = false := by simpa using e
      simp only [e, Bool.false_or]
      exact ih
theorem dm_in (n : List Nat) (l : List (List Nat)) : dinD (.str n) (.dct false (dm l)) = some (decide (n ∈ l)) := by
  simp only [dinD]
  rw [if_pos (show keyOk false (D.str n) = true from rfl), dm_find]
theorem dm_put {n : List Nat} {l : List (List Nat)} (h : n ∉ l) (hl : l.length < 16777216) : dputD false (dm l) (.str n) (.bl true) = some (dm (l ++ [n])) := by
  unfold dputD
  rw [if_pos ⟨rfl, by simpa [dm] using hl⟩]
  unfold storeD
  rw [dm_any, decide_eq_false h]
  simp [dm]
theorem is_nodeS {ns : List (List Nat)} {l : List Turn} {n : Nat} (h : ∀ p ∈ l, p.1 ∈ ns ∧ p.2 < n) (nd : (l.map (·.1)).Nodup) (hl : l.length ≤ 1000) : m_is_node (.lst (l.map tD)) (.lst (dn ns)) (.int (n : Nat)) = .ok (.bl true) := by
  refine of_sat ?_
  unfold m_is_node
  refine sat_ob (c := true) rfl (sat_ob (c := true) rfl (sat_if (fun h => by simp at h) fun _ => sat_ob (c := l.map tD) rfl ?_))
  refine sat_rb (sat_forL (I := fun i (z : List (D × D)) => z = dm ((l.take i).map (·.1))) (l.map tD) _ 0 rfl fun i z d hd hz => ?_) fun o ⟨z, e, _⟩ => by rw [e]; exact sat_ok rfl
  rw [Nat.zero_add] at hz ⊢
  subst hz
  rw [List.getElem?_map] at hd
  cases ep : l[i]? with
  | none => rw [ep] at hd; cases hd
  | some p =>
    rw [ep] at hd
    cases hd
    obtain ⟨hi, ei⟩ := List.getElem?_eq_some_iff.mp ep
    have pm : p ∈ l := List.mem_of_getElem? ep
    obtain ⟨a1, a2⟩ := h p pm
    have hni : p.1 ∉ (l.take i).map (·.1) := by
      intro hm
      have hsp : l.map (·.1) = (l.take i).map (·.1) ++ (p.1 :: (l.drop (i + 1)).map (·.1)) := by
        rw [← List.map_cons, ← List.map_append]
        congr 1
        rw [← ei, ← List.drop_eq_getElem_cons hi, List.take_append_drop]
      rw [hsp] at nd
      exact (List.nodup_append.mp nd).2.2 _ hm _ List.mem_cons_self rfl
    have e1 : ixD (tD p) (.int 0) = some (.str p.1) := rfl
    refine sat_rbe (is_turnS a1 a2) (sat_ob (c := true) rfl (sat_rbe (r := (false, ())) ?_ ?_))
    · simp only [Bool.not_true, Bool.false_eq_true, if_false, e1, sx_ob, dm_in, decide_eq_false hni]
    refine sat_if (fun h => by simp at h) fun _ => sat_ob e1 (sat_ob (dm_put hni (by simp; omega)) (sat_ok ⟨_, rfl, ?_⟩))
    · rw [List.take_add_one, ep]
      simp [dm]
theorem ddp_nodup {α : Type} [BEq α] [LawfulBEq α] : ∀ (l σ : List α), (σ ++ l).Nodup → l.foldl step_dedup σ = σ ++ l
  | [], σ, _ => by simp
  | x :: r, σ, h => by
    have hx : σ.any (· == x) = false := by
      rw [List.any_eq_false]
      intro y hy e
      have : y = x := eq_of_beq e
      subst this
      exact (List.nodup_append.mp h).2.2 y hy y List.mem_cons_self rfl
    rw [List.foldl_cons]
    have e : step_dedup σ x = σ ++ [x] := by simp [step_dedup, hx]
    rw [e, ddp_nodup r (σ ++ [x]) (by simpa using h)]
    simp
theorem lenSet_dn {l : List (List Nat)} (nd : l.Nodup) (h : l.length ≤ 4000) : lenSetD (.lst (dn l)) = some (.int l.length) := by
  show (match strsD (l.map D.str) with | some ys => _ | none => none) = _
  rw [strsD_map]
  simp only
  rw [if_pos h]
  have : ddp l = l := by simpa [ddp] using ddp_nodup l [] (by simpa using nd)
  rw [this]
structure Ws (ni : Nat) (ns : List (List Nat)) (s0 : List Nat) (nodes : List (List Turn)) : Prop extends Wf ns s0 nodes where
  i4 : ni ≤ 4
  o1 : ni < ns.length
  o7 : ns.length ≤ ni + 7
  wo : ∀ v ∈ ns, Word v
  n40 : nodes.length ≤ 40
  nod : ∀ i, ((nx nodes i).map (·.1)).Nodup
theorem nx_mem {nodes : List (List Turn)} {l : List Turn} (h : l ∈ nodes) : ∃ i, i < nodes.length ∧ nx nodes i = l := by
  obtain ⟨i, hi, e⟩ := List.getElem_of_mem h
  exact ⟨i, hi, by simp [nx, hi, e]⟩
theorem Ws.len {ni : Nat} {ns : List (List Nat)} {s0 : List Nat} {nodes : List (List Turn)} (w : Ws ni ns s0 nodes) (i : Nat) : (nx nodes i).length ≤ 11 := by
  have := pigeon (a := (nx nodes i).map (·.1)) (b := ns) (w.nod i) fun x hx => by
    obtain ⟨p, hp, rfl⟩ := List.mem_map.mp hx
    exact (w.tu i p hp).1
  have h1 := w.i4
  have h2 := w.o7
  simp at this
  omega
theorem is_sheetS {ni : Nat} {ns : List (List Nat)} {s0 : List Nat} {nodes : List (List Turn)} (w : Ws ni ns s0 nodes) :
    Sat (m_is_sheet (sheetS ni ns s0 nodes)) (fun d => ∃ b : Bool, d = .bl b ∧ (b = true ↔ Cons ns s0 nodes)) := by
  have i4 := w.i4
  have o1 := w.o1
  have o7 := w.o7
  have n40 := w.n40
  have n0 := w.n0
  have sl := w.sl
  unfold m_is_sheet
  refine sat_ob (c := true) rfl (sat_ob (c := true) rfl (sat_rbe (r := (false, ())) rfl (sat_if (fun h => by simp at h) fun _ => sat_ob (c := (.lst (dn (ns.take ni)), .lst (dn (ns.drop ni)), .str s0, NL nodes)) rfl ?_)))
  have a1 := are_namesS (l := ns.take ni) fun v hv => w.wo v (List.mem_of_mem_take hv)
  have a2 := are_namesS (l := ns.drop ni) fun v hv => w.wo v (List.mem_of_mem_drop hv)
  refine sat_rbe a1 (sat_ob (c := true) rfl (sat_rbe (r := (false, ())) ?_ (sat_if (fun h => by simp at h) fun _ => sat_ob (names_catS (by omega)) ?_)))
  · simp only [Bool.not_true, Bool.false_eq_true, if_false, a2, sx_rb, sx_asB, sx_ob, sx_len, dn_len, sx_gt, sx_lt, List.length_take, List.length_drop]
    rw [show decide (((min ni ns.length : Nat) : Int) > 4) = false by simp; omega, show decide ((0 : Int) < ((ns.length - ni : Nat) : Int)) = true by simp; omega, show decide (((ns.length - ni : Nat) : Int) < 8) = true by simp; omega]
    rfl
  refine sat_ob (lenSet_dn w.nd (by omega)) (sat_ob len_l (sat_ob (c := false) ?_ (sat_rbe (r := (false, ())) ?_ (sat_if (fun h => by simp at h) fun _ => ?_))))
  · rw [dn_len, sx_nei]; simp
  · have := are_signsS w.sb (by omega)
    rw [sl] at this
    simp only [Bool.false_eq_true, if_false, sx_len, dn_len, sx_ob, this, sx_rb, sx_asB, Bool.not_true]
  refine sat_ob (c := true) rfl (sat_ob (c := true) rfl (sat_rbe (r := (false, ())) ?_ (sat_if (fun h => by simp at h) fun _ => sat_ob (c := (nD nodes).map .lst) rfl ?_)))
  · simp only [Bool.not_true, Bool.false_eq_true, if_false, NL, sx_len, sx_ob, sx_lt, sx_le, List.length_map, nD]
    rw [show decide ((0 : Int) < (nodes.length : Int)) = true by simp; omega, show decide ((nodes.length : Int) ≤ 40) = true by simp; omega]
    rfl
  refine sat_rbe (r := []) ?_ (sat_ob (c := false) rfl (sat_if (fun h => by simp at h) fun _ => ?_))
  · rw [fmR_eq (g := fun _ => none) _ fun d hd => by
      simp only [nD, List.map_map, List.mem_map, Function.comp] at hd
      obtain ⟨l, hl, rfl⟩ := hd
      obtain ⟨i, hi, rfl⟩ := nx_mem hl
      have := is_nodeS (ns := ns) (n := nodes.length) (w.tu i) (w.nod i) (by have := w.len i; omega)
      have e : lenD (NL nodes) = some (.int (nodes.length : Nat)) := by simp [NL, nD, lenD]
      rw [e, sx_ob, this]
      rfl]
    simp
  refine sat_rb (rows_gen w.toWf) fun d hd => ?_
  rcases hd with ⟨ρ, seen, rfl, v, _⟩ | ⟨rfl, nc⟩
  · exact sat_ob (c := true) rfl (sat_ok ⟨true, rfl, by simp; exact ⟨ρ, v⟩⟩)
  · exact sat_ob (c := false) rfl (sat_ok ⟨false, rfl, by simp [nc]⟩)
end W

namespace W
open PySem VL SSN PyProof.Rows
/-! a drawn sheet -/
theorem perm_erase {α : Type} : ∀ (l : List α) (i : Nat) (x : α), l[i]? = some x → (x :: l.eraseIdx i).Perm l
  | [], i, x, h => by simp at h
  | a :: r, 0, x, h => by simp at h; subst h; simp
  | a :: r, i + 1, x, h => by
    have ih := perm_erase r i x (by simpa using h)
    exact (List.Perm.swap a x _).trans (ih.cons a)
theorem popAt_l {l : List D} {i : Nat} {d : D} (h : l[i]? = some d) : popAtL l (.int (i : Nat)) = some (d, l.eraseIdx i) := by
  have hl := (List.getElem?_eq_some_iff.mp h).1
  have e : L2.ixN l.length (i : Int) = some i := by simp [L2.ixN]; omega
  simp only [popAtL, e, h]
def spare15 : List (List Nat) := [q_a, q_b, q_c, q_ab, q_ba, q_hold, q_set, q_x, q_zzzzzzzz, q_aa, q_wire, q_not, q_and, q_or, q_q]
theorem spare15_ok : spare15.Nodup ∧ ∀ v ∈ spare15, Word v := by
  refine ⟨by decide, fun v hv => ?_⟩
  simp only [spare15, List.mem_cons, List.not_mem_nil, or_false] at hv
  rcases hv with h | h | h | h | h | h | h | h | h | h | h | h | h | h | h <;> (subst h; exact ⟨by decide, by decide, fun c hc => by simp at hc; omega⟩)
theorem tnames_ok {l : List D} (h : St l) {many : Nat} (hm : many ≤ 15) : Sat (m__law_some_names l (.int (many : Nat))) (fun r => ∃ ns : List (List Nat), r.1 = dn ns ∧ ns.length = many ∧ ns.Nodup ∧ (∀ w ∈ ns, Word w) ∧ St r.2) := by
  unfold m__law_some_names
  refine sat_ob (rng_n (by omega)) ?_
  refine sat_rb (sat_fmSn (I := fun i (z : List D × List D) acc => St z.2 ∧ ∃ ns rest : List (List Nat), acc = dn ns ∧ z.1 = dn rest ∧ ns.length = i ∧ (ns ++ rest).Perm spare15) (rngL many) (dn spare15, l) [] 0 ⟨h, [], spare15, rfl, rfl, rfl, List.Perm.refl _⟩ fun i z d acc hd ⟨hz, ns, rest, e1, e2, hl, hp⟩ => ?_) fun p ⟨hz, ns, rest, e1, _, hl, hp⟩ => ?_
  · obtain ⟨hi, rfl⟩ := rngL_get hd
    rw [Nat.zero_add] at hl ⊢
    have hlen := hp.length_eq
    rw [List.length_append] at hlen
    have h15 : spare15.length = 15 := rfl
    obtain ⟨z1, z2⟩ := z
    dsimp only at e2 hz ⊢
    subst e2
    rw [sx_len, dn_len]
    refine sat_ob rfl (sat_rb (take_ok hz (n := rest.length) (by omega) (by omega)) fun r ⟨⟨k, ek, hk⟩, hs⟩ => ?_)
    rw [ek]
    have hg : (dn rest)[k]? = some (.str rest[k]) := dn_get (List.getElem?_eq_getElem hk)
    refine sat_ob (popAt_l hg) (sat_ok ⟨hs, ns ++ [rest[k]], rest.eraseIdx k, ?_, ?_, by simp [hl], ?_⟩)
    · show acc ++ [D.str rest[k]] = _
      rw [e1]; simp [dn]
    · show (dn rest).eraseIdx k = _
      simp only [dn]
      rw [List.eraseIdx_eq_take_drop_succ, List.eraseIdx_eq_take_drop_succ]
      simp
    · refine List.Perm.trans ?_ hp
      rw [List.append_assoc]
      exact (perm_erase rest k rest[k] (List.getElem?_eq_getElem hk)).append_left ns
  · rw [rngL_len, Nat.zero_add] at hl
    have nd : (ns ++ rest).Nodup := hp.nodup_iff.mpr spare15_ok.1
    refine sat_ok ⟨ns, by simpa using e1, hl, (List.nodup_append.mp nd).1, fun w hw => spare15_ok.2 w (hp.mem_iff.mp (List.mem_append_left _ hw)), hz⟩
theorem sat_fmR {f : D → Res (Option D)} {P : D → D → Prop} : ∀ (ds : List D), (∀ d ∈ ds, Sat (f d) (fun o => ∀ y, o = some y → P d y)) → Sat (fmR ds f) (fun ys => ys.length ≤ ds.length ∧ ∀ y ∈ ys, ∃ d ∈ ds, P d y)
  | [], _ => ⟨[], rfl, Nat.le_refl _, fun y hy => absurd hy (by simp)⟩
  | d :: r, h => by
    refine sat_rb (h d List.mem_cons_self) fun o ho => ?_
    refine sat_rb (sat_fmR r fun d hd => h d (List.mem_cons_of_mem _ hd)) fun ys hys => ?_
    obtain ⟨hl, hy⟩ := hys
    cases o with
    | none => exact sat_ok ⟨by simp; omega, fun y hm => let ⟨d, a, b⟩ := hy y hm; ⟨d, List.mem_cons_of_mem _ a, b⟩⟩
    | some x =>
      refine sat_ok ⟨by simp; omega, fun y hm => ?_⟩
      rcases List.mem_cons.mp hm with e | e
      · subst e; exact ⟨d, List.mem_cons_self, ho _ rfl⟩
      · obtain ⟨d, a, b⟩ := hy y e
        exact ⟨d, List.mem_cons_of_mem _ a, b⟩
theorem nd_at (nodes : List (List Turn)) (j : Nat) : (nD nodes).getD j [] = (nx nodes j).map tD := by
  unfold nD nx
  rw [List.getD_eq_getElem?_getD, List.getD_eq_getElem?_getD, List.getElem?_map]
  cases nodes[j]? <;> rfl
theorem nd_len (nodes : List (List Turn)) : (nD nodes).length = nodes.length := by simp [nD]
theorem nd_set (nodes : List (List Turn)) (j : Nat) (l : List Turn) : (nD nodes).set j (l.map tD) = nD (nodes.set j l) := by
  simp [nD, List.map_set]
theorem nx_set {nodes : List (List Turn)} {j i : Nat} {l : List Turn} (h : j < nodes.length) : nx (nodes.set j l) i = if i = j then l else nx nodes i := by
  unfold nx
  rw [List.getD_eq_getElem?_getD, List.getD_eq_getElem?_getD, List.getElem?_set]
  by_cases e : i = j
  · subst e; simp [h]
  · rw [if_neg (fun z => e z.symm), if_neg e]
theorem nx_app {nodes : List (List Turn)} {i : Nat} {l : List Turn} : nx (nodes ++ [l]) i = if i < nodes.length then nx nodes i else if i = nodes.length then l else [] := by
  unfold nx
  rw [List.getD_eq_getElem?_getD, List.getD_eq_getElem?_getD]
  by_cases e : i < nodes.length
  · rw [List.getElem?_append_left e, if_pos e]
  · rw [List.getElem?_append_right (by omega), if_neg e]
    by_cases e2 : i = nodes.length
    · subst e2; simp
    · rw [if_neg e2]
      rw [List.getElem?_eq_none (by simp; omega)]; rfl
theorem rw_app {rows : List (List Nat)} {i : Nat} {l : List Nat} (h : i < rows.length) : rw_ (rows ++ [l]) i = rw_ rows i := by
  unfold rw_
  rw [List.getD_eq_getElem?_getD, List.getD_eq_getElem?_getD, List.getElem?_append_left h]
theorem rw_app2 {rows : List (List Nat)} {l : List Nat} : rw_ (rows ++ [l]) rows.length = l := by
  unfold rw_
  rw [List.getD_eq_getElem?_getD, List.getElem?_append_right (Nat.le_refl _)]; simp
theorem dn_at {l : List (List Nat)} {i : Nat} (h : i < l.length) : ixD (.lst (dn l)) (.int (i : Nat)) = some (.str (rw_ l i)) := by
  refine ix_l ?_
  simp [dn, rw_, h]
/-- a sheet on its way -/
structure Pre (ns rows : List (List Nat)) (nodes : List (List Turn)) (k : Nat) : Prop where
  nd : ns.Nodup
  nl : ns.length ≤ 11
  n0 : 0 < ns.length
  rl : ∀ i, i < rows.length → (rw_ rows i).length = ns.length ∧ Bits (rw_ rows i)
  r0 : 0 < rows.length
  le : rows.length ≤ nodes.length
  nn : nodes.length ≤ k + 1
  tu : ∀ i, ∀ p ∈ nx nodes i, p.1 ∈ ns ∧ p.2 < nodes.length
  nod : ∀ i, ((nx nodes i).map (·.1)).Nodup
  ed : ∀ i, i < rows.length → ∀ p ∈ nx nodes i, p.2 < rows.length ∧ ∃ a, ∃ h : a < ns.length, p.1 = ns[a] ∧ rw_ rows p.2 = flipS (rw_ rows i) a
theorem Pre.el {ns rows : List (List Nat)} {nodes : List (List Turn)} {k : Nat} (w : Pre ns rows nodes k) (i : Nat) : (nx nodes i).length ≤ 11 := by
  have := pigeon (a := (nx nodes i).map (·.1)) (b := ns) (w.nod i) fun x hx => by
    obtain ⟨p, hp, rfl⟩ := List.mem_map.mp hx
    exact (w.tu i p hp).1
  have h1 := w.nl
  simp at this
  omega
theorem Pre.up {ns rows : List (List Nat)} {nodes : List (List Turn)} {k j : Nat} (p : Pre ns rows nodes k) (h : k ≤ j) : Pre ns rows nodes j :=
  { p with nn := by have := p.nn; omega }
/-- the names at a node -/
theorem at_names {nodes : List (List Turn)} {j : Nat} : fmR ((nx nodes j).map tD) (fun d => ob (un2 d) fun p => .ok (some p.1)) = .ok (dn ((nx nodes j).map (·.1))) := by
  rw [fmR_map (g := fun d => match d with | .tup [a, _] => a | _ => .non) _ fun d hd => ?_]
  · unfold dn
    rw [List.map_map, List.map_map]; rfl
  · simp only [List.mem_map] at hd
    obtain ⟨p, _, rfl⟩ := hd
    rfl
theorem notin_dn (a : List Nat) (l : List (List Nat)) : notInD (.str a) (.lst (dn l)) = some (!decide (a ∈ l)) := by
  simp only [notInD, in_dn]; rfl
theorem rw_eq {l : List (List Nat)} {i : Nat} (h : i < l.length) : rw_ l i = l[i] := by
  simp [rw_, h]
theorem nod_app {l : List Turn} {t : Turn} (h : (l.map (·.1)).Nodup) (hn : t.1 ∉ l.map (·.1)) : ((l ++ [t]).map (·.1)).Nodup := by
  rw [List.map_append, List.nodup_append]
  exact ⟨h, by simp, fun x hx y hy => by simp at hy; subst hy; intro e; subst e; exact hn hx⟩
/-- a new node behind a turn -/
theorem Pre.grow {ns rows : List (List Nat)} {nodes : List (List Turn)} {k here a : Nat} (p : Pre ns rows nodes k) (eq : rows.length = nodes.length) (hh : here < nodes.length) (ha : a < ns.length) (hnew : ns[a] ∉ (nx nodes here).map (·.1)) :
    Pre ns (rows ++ [flipS (rw_ rows here) a]) (nodes.set here (nx nodes here ++ [(ns[a], nodes.length)]) ++ [[]]) (k + 1) := by
  have rl := p.rl here (by omega)
  have look : ∀ i, nx (nodes.set here (nx nodes here ++ [(ns[a], nodes.length)]) ++ [[]]) i = if i = here then nx nodes here ++ [(ns[a], nodes.length)] else if i < nodes.length then nx nodes i else [] := fun i => by
    rw [nx_app]
    simp only [List.length_set]
    by_cases e : i < nodes.length
    · rw [if_pos e, nx_set hh, if_pos e]
    · rw [if_neg e, if_neg (show ¬ i = here by omega), if_neg e]
      split <;> rfl
  refine ⟨p.nd, p.nl, p.n0, fun i hi => ?_, by simp, by simp; omega, by have := p.nn; simp; omega, fun i q hq => ?_, fun i => ?_, fun i hi q hq => ?_⟩
  · simp only [List.length_append, List.length_singleton] at hi
    by_cases e : i < rows.length
    · rw [rw_app e]; exact p.rl i e
    · have : i = rows.length := by omega
      subst this
      rw [rw_app2, flipS_len (by omega)]
      exact ⟨rl.1, flipS_bits rl.2⟩
  · rw [look] at hq
    simp only [List.length_append, List.length_set, List.length_singleton]
    split at hq
    · rcases List.mem_append.mp hq with hq | hq
      · have := p.tu here q hq
        exact ⟨this.1, by omega⟩
      · rw [List.mem_singleton.mp hq]
        exact ⟨List.getElem_mem ha, by show nodes.length < _; omega⟩
    · split at hq
      · have := p.tu i q hq
        exact ⟨this.1, by omega⟩
      · cases hq
  · rw [look]
    split
    · exact nod_app (p.nod here) hnew
    · split
      · exact p.nod i
      · exact List.nodup_nil
  · simp only [List.length_append, List.length_singleton] at hi ⊢
    rw [look] at hq
    have old : ∀ i, i < nodes.length → q ∈ nx nodes i → q.2 < rows.length + 1 ∧ ∃ b, ∃ h : b < ns.length, q.1 = ns[b] ∧ rw_ (rows ++ [flipS (rw_ rows here) a]) q.2 = flipS (rw_ rows i) b := fun i hi hq => by
      obtain ⟨x, b, hb, y, z⟩ := p.ed i (by omega) q hq
      exact ⟨by omega, b, hb, y, by rw [rw_app x]; exact z⟩
    split at hq
    · rename_i e; subst e
      rw [rw_app (show i < rows.length by omega)]
      rcases List.mem_append.mp hq with hq | hq
      · exact old _ hh hq
      · rw [List.mem_singleton.mp hq]
        refine ⟨by show nodes.length < _; omega, a, ha, rfl, ?_⟩
        show rw_ _ nodes.length = _
        rw [← eq, rw_app2]
    · split at hq
      · rename_i e
        rw [rw_app (show i < rows.length by omega)]
        exact old i e hq
      · cases hq
/-- one turn more -/
theorem Pre.turn {ns rows : List (List Nat)} {nodes : List (List Turn)} {k here a to : Nat} (p : Pre ns rows nodes k) (hh : here < nodes.length) (ha : a < ns.length) (ht : to < rows.length) (er : rw_ rows to = flipS (rw_ rows here) a) (hnew : ns[a] ∉ (nx nodes here).map (·.1)) :
    Pre ns rows (nodes.set here (nx nodes here ++ [(ns[a], to)])) k := by
  have le := p.le
  refine ⟨p.nd, p.nl, p.n0, p.rl, p.r0, by simpa using le, by have := p.nn; simpa using this, fun i q hq => ?_, fun i => ?_, fun i hi q hq => ?_⟩
  · rw [nx_set hh] at hq
    rw [List.length_set]
    split at hq
    · rcases List.mem_append.mp hq with hq | hq
      · exact p.tu here q hq
      · rw [List.mem_singleton.mp hq]
        exact ⟨List.getElem_mem ha, by show to < _; omega⟩
    · exact p.tu i q hq
  · rw [nx_set hh]
    split
    · exact nod_app (p.nod here) hnew
    · exact p.nod i
  · rw [nx_set hh] at hq
    split at hq
    · rename_i e; subst e
      rcases List.mem_append.mp hq with hq | hq
      · exact p.ed i hi q hq
      · rw [List.mem_singleton.mp hq]; exact ⟨ht, a, ha, rfl, er⟩
    · exact p.ed i hi q hq
/-- a node that nothing leads to -/
theorem Pre.more {ns rows : List (List Nat)} {nodes : List (List Turn)} {k : Nat} (p : Pre ns rows nodes k) {t : Turn} (h1 : t.1 ∈ ns) (h2 : t.2 < nodes.length + 1) : Pre ns rows (nodes ++ [[t]]) (k + 1) := by
  have le := p.le
  refine ⟨p.nd, p.nl, p.n0, p.rl, p.r0, by simp; omega, by have := p.nn; simp; omega, fun i q hq => ?_, fun i => ?_, fun i hi q hq => ?_⟩
  · rw [nx_app] at hq
    simp only [List.length_append, List.length_singleton]
    split at hq
    · have := p.tu i q hq
      exact ⟨this.1, by omega⟩
    · split at hq
      · rw [List.mem_singleton.mp hq]; exact ⟨h1, h2⟩
      · cases hq
  · rw [nx_app]
    split
    · exact p.nod i
    · split <;> simp
  · rw [nx_app, if_pos (by omega)] at hq
    exact p.ed i hi q hq
theorem Pre.ws {ns rows : List (List Nat)} {nodes : List (List Turn)} {ni : Nat} (p : Pre ns rows nodes 39) (i4 : ni ≤ 4) (o1 : ni < ns.length) (o7 : ns.length ≤ ni + 7) (wo : ∀ v ∈ ns, Word v) : Ws ni ns (rw_ rows 0) nodes :=
  ⟨⟨p.nd, by have := p.nl; omega, (p.rl 0 p.r0).1, (p.rl 0 p.r0).2, by have := p.r0; have := p.le; omega, by have := p.nn; omega, p.tu⟩, i4, o1, o7, wo, p.nn, p.nod⟩
theorem Pre.cons {ns rows : List (List Nat)} {nodes : List (List Turn)} {k : Nat} (p : Pre ns rows nodes k) : Cons ns (rw_ rows 0) nodes := by
  have lt : ∀ i, Reach nodes i → i < rows.length := fun i h => by
    induction h with
    | zero => exact p.r0
    | step a b ih => exact (p.ed _ ih _ b).1
  refine ⟨rw_ rows, rfl, fun i hi q hq => ?_⟩
  obtain ⟨_, a, ha, e, z⟩ := p.ed i (lt i hi) q hq
  have : ns.idxOf q.1 = a := by rw [e]; exact p.nd.idxOf_getElem a ha
  rw [this]; exact z
theorem nd_app (nodes : List (List Turn)) (l : List Turn) : nD nodes ++ [l.map tD] = nD (nodes ++ [l]) := by simp [nD]
theorem nd_app0 (nodes : List (List Turn)) : nD nodes ++ [[]] = nD (nodes ++ [[]]) := by simp [nD]
theorem dn_app1 (l : List (List Nat)) (a : List Nat) : dn l ++ [.str a] = dn (l ++ [a]) := by simp [dn]
theorem dn_at' {l : List (List Nat)} {i : Nat} (h : i < l.length) : ixD (.lst (dn l)) (.int (i : Nat)) = some (.str l[i]) := by
  rw [dn_at h, rw_eq h]
theorem add_n1 (a : Nat) : addD (.int (a : Nat)) (.int 1) = some (.int ((a + 1 : Nat) : Int)) := by
  rw [add_i, Int.natCast_add]; rfl
theorem more_ok {ns rows : List (List Nat)} {nodes : List (List Turn)} {n : Nat} {store : List D} (st : St store) (pre : Pre ns rows nodes n) (hn : n ≤ 200) :
    Sat (ob (lenD (.lst (dn ns))) fun t88 => rb (m__law_take store t88) fun r87 => ob (ixD (.lst (dn ns)) r87.1) fun t86 => ob (addD (.int ((nD nodes).length : Nat)) (.int 1)) fun t90 => rb (m__law_take r87.2 t90) fun r89 => (if ((nD nodes).map VL.T.l).length < 16777216 then .ok ((nD nodes ++ [[(.tup [t86, r89.1])]]), r89.2) else .fail)) (fun z : List (List D) × List D => St z.2 ∧ ∃ nodes', z.1 = nD nodes' ∧ Pre ns rows nodes' (n + 1)) := by
  have nn := pre.nn
  have pnl := pre.nl
  refine sat_ob len_l ?_
  rw [dn_len]
  refine sat_rb (take_ok st pre.n0 (by omega)) fun r hr => ?_
  obtain ⟨r3, r4⟩ := r
  obtain ⟨⟨a, ea, ha⟩, st⟩ := hr
  dsimp only at ea st
  subst ea
  refine sat_ob (dn_at' ha) ?_
  rw [nd_len]
  refine sat_ob (add_n1 _) ?_
  refine sat_rb (take_ok (n := nodes.length + 1) st (Nat.succ_pos _) (by omega)) fun r hr => ?_
  obtain ⟨r5, r6⟩ := r
  obtain ⟨⟨to, et, ht⟩, st⟩ := hr
  dsimp only at et st
  subst et
  refine sat_if (fun _ => sat_ok ⟨st, nodes ++ [[(ns[a], to)]], nd_app nodes [(ns[a], to)], pre.more (List.getElem_mem ha) ht⟩) fun h => absurd ?_ h
  rw [List.length_map, nd_len]; omega
theorem sheet_okT {store : List D} {most : Nat} (hs : St store) (hm : most = 12 ∨ most = 40) : Sat (m__law_sheet store (.int (most : Nat))) (fun r => ∃ ni ns s0 nodes, r.1 = sheetS ni ns s0 nodes ∧ Ws ni ns s0 nodes ∧ Cons ns s0 nodes ∧ St r.2) := by
  have hm1 : 0 < most := by omega
  have hm2 : most ≤ 40 := by omega
  unfold m__law_sheet
  refine sat_rb (take_ok hs (n := 5) (by decide) (by decide)) fun r1 ⟨⟨ins, ei, hi⟩, hs⟩ => ?_
  obtain ⟨r11, r12⟩ := r1
  dsimp only at ei hs
  subst ei
  refine sat_rb (take_ok hs (n := 4) (by decide) (by decide)) fun r1 ⟨⟨j, ej, hj⟩, hs⟩ => ?_
  obtain ⟨r21, r22⟩ := r1
  dsimp only at ej hs
  subst ej
  obtain ⟨m, m0, m7, em⟩ : ∃ m : Nat, 0 < m ∧ m ≤ 7 ∧ ixD (.lst [(.int 3), (.int 3), (.int 3), (.int 7)]) (.int (j : Nat)) = some (.int (m : Nat)) := by
    match j, hj with
    | 0, _ => exact ⟨3, by decide, by decide, rfl⟩
    | 1, _ => exact ⟨3, by decide, by decide, rfl⟩
    | 2, _ => exact ⟨3, by decide, by decide, rfl⟩
    | 3, _ => exact ⟨7, by decide, by decide, rfl⟩
  refine sat_ob em (sat_rb (take_ok hs m0 (by omega)) fun r1 ⟨⟨o, eo, ho⟩, hs⟩ => ?_)
  obtain ⟨r31, r32⟩ := r1
  dsimp only at eo hs
  subst eo
  refine sat_ob (c := .int ((1 + o : Nat) : Int)) (by show some (D.int _) = _; congr 2) (sat_ob (c := .int ((ins + (1 + o) : Nat) : Int)) (by show some (D.int _) = _; congr 2) ?_)
  refine sat_rb (tnames_ok hs (many := ins + (1 + o)) (by omega)) fun r ⟨ns, en, nl, nd, wo, hs⟩ => ?_
  obtain ⟨r41, r42⟩ := r
  dsimp only at en hs
  subst en
  -- the first row
  refine sat_ob (c := qx_) rfl (sat_ob (c := dn ns) rfl ?_)
  let I : Nat → List D → List D → Prop := fun i z acc => St z ∧ ∃ bs : List Nat, acc = bs.map chD ∧ Bits bs ∧ bs.length = i
  refine sat_rb (sat_fmSn (I := I) (dn ns) r42 [] 0 ⟨hs, [], rfl, fun c hc => absurd hc (by simp), rfl⟩ fun i z d acc hd hz => ?_) fun p hp => ?_
  · obtain ⟨st, bs, rfl, hb, hl⟩ := hz
    refine sat_rb (take_ok st (n := 2) (by decide) (by decide)) fun r ⟨⟨k, ek, hk⟩, st2⟩ => ?_
    obtain ⟨r1, r2⟩ := r
    dsimp only at ek st2
    subst ek
    obtain ⟨b, hb2, eb⟩ : ∃ b : Nat, (b = 48 ∨ b = 49) ∧ ixD (.str q_01) (.int (k : Nat)) = some (.str [b]) := by
      match k, hk with
      | 0, _ => exact ⟨48, .inl rfl, rfl⟩
      | 1, _ => exact ⟨49, .inr rfl, rfl⟩
    refine sat_ob eb (sat_ok ⟨st2, bs ++ [b], by simp [accD, chD], ?_, by simp; omega⟩)
    intro c hc
    rcases List.mem_append.mp hc with hc | hc
    · exact hb c hc
    · rw [List.mem_singleton.mp hc]; exact hb2
  obtain ⟨p1, p2⟩ := p
  obtain ⟨st, bs, eb, hb, hl⟩ := hp
  rw [List.nil_append] at eb
  dsimp only at eb st
  subst eb
  rw [dn_len, Nat.zero_add] at hl
  refine sat_ob (join_ch (by omega)) (sat_rb (take_ok st hm1 (by omega)) fun r ⟨⟨n1, e1, h1⟩, st⟩ => ?_)
  obtain ⟨r51, r52⟩ := r
  dsimp only at e1 st
  subst e1
  -- nodes behind turns
  refine sat_ob (rng0 (by omega)) ?_
  let J : Nat → (List D × List (List D) × List D) → Prop := fun n z => St z.1 ∧ ∃ rows nodes, z.2.1 = nD nodes ∧ z.2.2 = dn rows ∧ rows.length = nodes.length ∧ Pre ns rows nodes n
  refine sat_rb (sat_forN (I := J) _ (r52, ([[]] : List (List D)), [.str bs]) 0 ⟨st, [bs], [[]], rfl, rfl, rfl, ?_⟩ fun n z d _ hz => ?_) fun z hz => ?_
  · have emp : ∀ i, nx [[]] i = [] := fun i => by
      match i with
      | 0 => rfl
      | i + 1 => rfl
    refine ⟨nd, by omega, by omega, fun i hi => ?_, by simp, by simp, by simp, fun i q hq => ?_, fun i => ?_, fun i hi q hq => ?_⟩
    · have : i = 0 := by simp at hi; omega
      subst this
      exact ⟨hl, hb⟩
    · rw [emp] at hq; cases hq
    · rw [emp]; exact List.nodup_nil
    · rw [emp] at hq; cases hq
  · rw [Nat.zero_add] at hz ⊢
    obtain ⟨z1, z2, z3⟩ := z
    obtain ⟨st, rows, nodes, e1, e2, eq, pre⟩ := hz
    dsimp only at e1 e2 st
    subst e1 e2
    have np : 0 < nodes.length := by have := pre.r0; omega
    have nn := pre.nn
    have hn : n < most := by
      have := (List.getElem?_eq_some_iff.mp ‹_›).1
      simp at this
      omega
    have pnl := pre.nl
    simp only [nd_len]
    refine sat_rb (take_ok st np (by omega)) fun r ⟨⟨here, eh, hh⟩, st⟩ => ?_
    obtain ⟨r1, r2⟩ := r
    dsimp only at eh st
    subst eh
    refine sat_ob len_l ?_
    rw [dn_len]
    refine sat_ob (rng0 (by omega)) ?_
    refine sat_rb (sat_fmR (P := fun d y => y = d ∧ ∃ a : Nat, ∃ h : a < ns.length, d = .int (a : Nat) ∧ ns[a] ∉ (nx nodes here).map (·.1)) _ fun d hd => ?_) fun ys ⟨hyl, hy⟩ => ?_
    · simp only [List.mem_map, List.mem_range] at hd
      obtain ⟨a, ha, rfl⟩ := hd
      refine sat_ob (dn_at' ha) (sat_ob (ixNd_n hh) ?_)
      rw [nd_at]
      refine sat_rbe at_names (sat_ob (notin_dn _ _) (sat_if (fun h => sat_ok fun y e => ⟨(Option.some.inj e).symm, a, ha, rfl, by simpa using h⟩) fun _ => sat_ok fun y e => by cases e))
    have hy2 : ∀ y ∈ ys, ∃ a : Nat, ∃ h : a < ns.length, y = .int (a : Nat) ∧ ns[a] ∉ (nx nodes here).map (·.1) := fun y hm => by
      obtain ⟨d, hd, rfl, h⟩ := hy y hm
      exact h
    have hyl2 : ys.length ≤ 100 := by simp at hyl; omega
    have pl : D.plains ys = true := by
      rw [plains_iff]; intro y hm
      obtain ⟨a, _, rfl, _⟩ := hy2 y hm; rfl
    have dp : D.deps ys ≤ 60 := deps_le fun y hm => by
      obtain ⟨a, _, rfl, _⟩ := hy2 y hm; exact Nat.zero_le _
    refine sat_ob (ne_nil pl dp) (sat_if (fun hne => ?_) fun _ => sat_ok ⟨st, rows, nodes, rfl, rfl, eq, pre.up (by omega)⟩)
    have yp : 0 < ys.length := by
      cases ys with
      | nil => simp at hne
      | cons _ _ => simp
    refine sat_ob len_l (sat_rb (take_ok st yp (by omega)) fun r ⟨⟨k, ek, hk⟩, st⟩ => ?_)
    obtain ⟨r3, r4⟩ := r
    dsimp only at ek st
    subst ek
    obtain ⟨a, ha, ea, hnew⟩ := hy2 ys[k] (List.getElem_mem hk)
    have el := pre.el here
    refine sat_ob (ix_l (d := .int (a : Nat)) (by rw [List.getElem?_eq_getElem hk, ea])) (sat_ob (ixNd_n hh) (sat_ob (dn_at' ha) ?_))
    rw [nd_at]
    have rl := pre.rl here (by omega)
    refine sat_ob (c := (nx nodes here ++ [(ns[a], nodes.length)]).map tD) (by rw [ap_l (by simp; omega)]; simp [tD]) (sat_ob (dn_at (by omega)) (sat_rbe (flip_ok rl.2 (by omega) (by omega)) (sat_ob (c := dn (rows ++ [flipS (rw_ rows here) a])) (by rw [ap_l (by rw [dn_len]; omega), dn_app1]) ?_)))
    rw [nd_set, nd_app0]
    refine sat_if (fun _ => sat_ok ⟨st, _, _, rfl, rfl, by simp; exact eq, pre.grow eq hh ha hnew⟩) fun h => absurd ?_ h
    simp [nd_len]; omega
  obtain ⟨z1, z2, z3⟩ := z
  obtain ⟨st, rows, nodes, e1, e2, eq, pre⟩ := hz
  dsimp only at e1 e2 st
  subst e1 e2
  have pre := pre.up (j := 39) (by simp; omega)
  -- turns between nodes
  refine sat_ob (c := .int ((2 * most : Nat) : Int)) (by rw [mul_l (by decide)]; congr 2) (sat_rb (take_ok st (n := 2 * most) (by omega) (by omega)) fun r ⟨⟨n2, e2, h2⟩, st⟩ => ?_)
  obtain ⟨r61, r62⟩ := r
  dsimp only at e2 st
  subst e2
  refine sat_ob (rng0 (by omega)) ?_
  let J2 : Nat → (List D × List (List D)) → Prop := fun n z => St z.1 ∧ ∃ nodes, z.2 = nD nodes ∧ rows.length = nodes.length ∧ Pre ns rows nodes 39
  refine sat_rb (sat_forN (I := J2) _ (r62, nD nodes) 0 ⟨st, nodes, rfl, eq, pre⟩ fun n z d _ hz => ?_) fun z hz => ?_
  · rw [Nat.zero_add] at hz ⊢
    obtain ⟨z1, z2⟩ := z
    obtain ⟨st, nodes, e1, eq, pre⟩ := hz
    dsimp only at e1 st
    subst e1
    have np : 0 < nodes.length := by have := pre.r0; omega
    have nn := pre.nn
    have hn : n < 2 * most := by
      have := (List.getElem?_eq_some_iff.mp ‹_›).1
      simp at this
      omega
    have pnl := pre.nl
    have pn0 := pre.n0
    simp only [nd_len]
    refine sat_rb (take_ok st np (by omega)) fun r ⟨⟨here, eh, hh⟩, st⟩ => ?_
    obtain ⟨r1, r2⟩ := r
    dsimp only at eh st
    subst eh
    refine sat_ob len_l ?_
    rw [dn_len]
    refine sat_rb (take_ok st pn0 (by omega)) fun r ⟨⟨a, ea, ha⟩, st⟩ => ?_
    obtain ⟨r3, r4⟩ := r
    dsimp only at ea st
    subst ea
    have rl := pre.rl here (by omega)
    refine sat_ob (rng0 (by omega)) ?_
    refine sat_rb (sat_fmR (P := fun d y => y = d ∧ ∃ to : Nat, d = .int (to : Nat) ∧ to < rows.length ∧ rw_ rows to = flipS (rw_ rows here) a) _ fun d hd => ?_) fun ys ⟨hyl, hy⟩ => ?_
    · simp only [List.mem_map, List.mem_range] at hd
      obtain ⟨to, ht, rfl⟩ := hd
      refine sat_ob (dn_at (by omega)) (sat_ob (dn_at (by omega)) (sat_rbe (flip_ok rl.2 (by omega) (by omega)) (sat_ob eq_str (sat_if (fun h => sat_ok fun y e => ⟨(Option.some.inj e).symm, to, rfl, by omega, by simpa using h⟩) fun _ => sat_ok fun y e => by cases e))))
    have hy2 : ∀ y ∈ ys, ∃ to : Nat, y = .int (to : Nat) ∧ to < rows.length ∧ rw_ rows to = flipS (rw_ rows here) a := fun y hm => by
      obtain ⟨d, _, rfl, h⟩ := hy y hm
      exact h
    have hyl2 : ys.length ≤ 1000 := by simp at hyl; omega
    have pl : D.plains ys = true := by
      rw [plains_iff]; intro y hm
      obtain ⟨a, rfl, _⟩ := hy2 y hm; rfl
    have dp : D.deps ys ≤ 60 := deps_le fun y hm => by
      obtain ⟨a, rfl, _⟩ := hy2 y hm; exact Nat.zero_le _
    have nx_ : J2 (n + 1) (r4, nD nodes) := ⟨st, nodes, rfl, eq, pre⟩
    refine sat_ob (ne_nil pl dp) (sat_rb (P := fun p => p.1 = true → 0 < ys.length ∧ ns[a] ∉ (nx nodes here).map (·.1)) (sat_if (fun hne => ?_) fun _ => sat_ok fun h => by cases h) fun p hp => sat_if (fun hb2 => ?_) fun _ => sat_ok nx_)
    · refine sat_ob (dn_at' ha) (sat_ob (ixNd_n hh) ?_)
      rw [nd_at]
      refine sat_rbe at_names (sat_ob (notin_dn _ _) (sat_ok fun h => ⟨?_, by simpa using h⟩))
      cases ys with
      | nil => simp at hne
      | cons _ _ => simp
    · obtain ⟨yp, hnew⟩ := hp hb2
      refine sat_ob (ixNd_n hh) (sat_ob (dn_at' ha) (sat_ob len_l (sat_rb (take_ok st yp (by omega)) fun r ⟨⟨k, ek, hk⟩, st⟩ => ?_)))
      obtain ⟨r5, r6⟩ := r
      dsimp only at ek st
      subst ek
      obtain ⟨to, et, ht, er⟩ := hy2 ys[k] (List.getElem_mem hk)
      have el := pre.el here
      rw [nd_at]
      refine sat_ob (ix_l (d := .int (to : Nat)) (by rw [List.getElem?_eq_getElem hk, et])) (sat_ob (c := (nx nodes here ++ [(ns[a], to)]).map tD) (by rw [ap_l (by simp; omega)]; simp [tD]) ?_)
      rw [nd_set]
      exact sat_ok ⟨st, _, rfl, by simp; exact eq, pre.turn hh ha ht er hnew⟩
  obtain ⟨z1, z2⟩ := z
  obtain ⟨st, nodes, e1, eq, pre⟩ := hz
  dsimp only at e1 st
  subst e1
  -- nodes that nothing leads to
  refine sat_rb (take_ok st (n := 4) (by decide) (by decide)) fun r ⟨⟨j, ej, hj⟩, st⟩ => ?_
  obtain ⟨r71, r72⟩ := r
  dsimp only at ej st
  subst ej
  obtain ⟨m, m2, em⟩ : ∃ m : Nat, m ≤ 2 ∧ ixD (.lst [(.int 0), (.int 0), (.int 1), (.int 2)]) (.int (j : Nat)) = some (.int (m : Nat)) := by
    match j, hj with
    | 0, _ => exact ⟨0, by decide, rfl⟩
    | 1, _ => exact ⟨0, by decide, rfl⟩
    | 2, _ => exact ⟨1, by decide, rfl⟩
    | 3, _ => exact ⟨2, by decide, rfl⟩
  obtain ⟨b, hb1, eb, hbn⟩ : ∃ b : Nat, b ≤ 1 ∧ intD (.bl (decide (((nD nodes).length : Int) < 38))) = some (.int (b : Nat)) ∧ (b = 0 ∨ nodes.length < 38) := by
    rw [nd_len]
    by_cases h : ((nodes.length : Nat) : Int) < 38
    · rw [decide_eq_true h]
      exact ⟨1, by decide, rfl, .inr (by omega)⟩
    · rw [decide_eq_false h]
      exact ⟨0, by decide, rfl, .inl rfl⟩
  have hmb : m * b ≤ 2 := by
    have := Nat.mul_le_mul m2 hb1
    omega
  obtain ⟨k0, pre, hk0⟩ : ∃ k0, Pre ns rows nodes k0 ∧ k0 + m * b ≤ 39 := by
    rcases hbn with e | e
    · subst e; exact ⟨39, pre, by simp⟩
    · exact ⟨36, { pre with nn := by omega }, by omega⟩
  refine sat_ob em (sat_ob (c := decide (((nD nodes).length : Int) < 38)) rfl (sat_ob eb (sat_ob (c := .int ((m * b : Nat) : Int)) (by rw [mul_l ⟨by omega, by omega⟩]; congr 2) (sat_ob (rng0 (by omega)) ?_))))
  let J3 : Nat → (List (List D) × List D) → Prop := fun n z => St z.2 ∧ ∃ nodes, z.1 = nD nodes ∧ Pre ns rows nodes (k0 + n)
  refine sat_rb (sat_forN (I := J3) _ (nD nodes, r72) 0 ⟨st, nodes, rfl, pre⟩ fun n z d _ hz => ?_) fun z hz => ?_
  · rw [Nat.zero_add] at hz ⊢
    obtain ⟨z1, z2⟩ := z
    obtain ⟨st, nodes, e1, pre⟩ := hz
    dsimp only at e1 st
    subst e1
    have hn : n < 2 := by
      have := (List.getElem?_eq_some_iff.mp ‹_›).1
      simp at this
      omega
    exact more_ok st pre (by show k0 + n ≤ 200; omega)
  obtain ⟨z1, z2⟩ := z
  obtain ⟨st, nodes, e1, pre⟩ := hz
  dsimp only at e1 st
  subst e1
  have hl2 : ins ≤ (dn ns).length := by rw [dn_len]; omega
  refine sat_ob (c := ((ins : Nat) : Int)) rfl (sat_ob (c := dn (ns.take ins)) ?_ (sat_ob (c := ((ins : Nat) : Int)) rfl (sat_ob (c := dn (ns.drop ins)) ?_ (sat_ob (dn_at (i := 0) pre.r0) (sat_ok ⟨ins, ns, rw_ rows 0, nodes, ?_, (pre.up (j := 39) (by simp; omega)).ws (by omega) (by omega) (by omega) wo, pre.cons, st⟩)))))
  · show some (cut _ _ _) = _
    rw [cut_to _ _ hl2]; simp [dn]
  · show some (cut _ _ _) = _
    rw [cut_from _ _ hl2]; simp [dn]
  · rfl
end W

namespace W
open PySem VL
theorem turns_plain (l : List Turn) : D.plains (l.map tD) = true := by
  rw [plains_iff]
  intro d hd
  simp only [List.mem_map] at hd
  obtain ⟨_, _, rfl⟩ := hd; rfl
theorem turns_dep (l : List Turn) : D.deps (l.map tD) ≤ 1 := deps_le fun d hd => by
  simp only [List.mem_map] at hd
  obtain ⟨_, _, rfl⟩ := hd; exact Nat.le_refl _
theorem nl_plain (nodes : List (List Turn)) : (NL nodes).plain = true := by
  simp only [NL, D.plain]
  rw [plains_iff]
  intro d hd
  simp only [nD, List.mem_map] at hd
  obtain ⟨_, ⟨l, _, rfl⟩, rfl⟩ := hd
  simp only [D.plain]; exact turns_plain l
theorem nl_dep (nodes : List (List Turn)) : (NL nodes).dep ≤ 3 := by
  simp only [NL, D.dep]
  have : D.deps ((nD nodes).map .lst) ≤ 2 := deps_le fun d hd => by
    simp only [nD, List.mem_map] at hd
    obtain ⟨_, ⟨l, _, rfl⟩, rfl⟩ := hd
    simp only [D.dep]
    have := turns_dep l
    omega
  omega
theorem sheetS_plain (ni : Nat) (ns : List (List Nat)) (s0 : List Nat) (nodes : List (List Turn)) : (sheetS ni ns s0 nodes).plain = true := by
  simp only [sheetS, D.plain, D.plains, Bool.and_eq_true, Bool.and_true, dn_plain, nl_plain]
theorem sheetS_dep (ni : Nat) (ns : List (List Nat)) (s0 : List Nat) (nodes : List (List Turn)) : (sheetS ni ns s0 nodes).dep ≤ 60 := by
  have a := dn_dep (ns.take ni)
  have b := dn_dep (ns.drop ni)
  have c := nl_dep nodes
  simp only [sheetS, D.dep, D.deps]
  omega
theorem copy_okT (ni : Nat) (ns : List (List Nat)) (s0 : List Nat) (nodes : List (List Turn)) : m__law_sheet_copy (sheetS ni ns s0 nodes) = .ok (sheetS ni ns s0 nodes) := by
  refine of_sat ?_
  unfold m__law_sheet_copy
  refine sat_ob (c := .lst (dn (ns.take ni))) rfl (sat_ob (c := dn (ns.take ni)) rfl (sat_ob (c := .lst (dn (ns.drop ni))) rfl (sat_ob (c := dn (ns.drop ni)) rfl (sat_ob (c := .str s0) rfl (sat_ob (c := NL nodes) rfl (sat_ob (c := (nD nodes).map .lst) rfl (sat_rbe (fmR_map (g := id) _ fun d hd => ?_) (sat_ok ?_))))))))
  · simp only [List.mem_map] at hd
    obtain ⟨l, _, rfl⟩ := hd
    exact of_sat (sat_ob (c := l) rfl (sat_ok rfl))
  · rw [List.map_id]; rfl
/-- a turn that leads elsewhere -/
theorem Ws.led {ni : Nat} {ns : List (List Nat)} {s0 : List Nat} {nodes : List (List Turn)} (w : Ws ni ns s0 nodes) {here j to : Nat} (hh : here < nodes.length) {p : Turn} (hp : (nx nodes here)[j]? = some p) (ht : to < nodes.length) :
    Ws ni ns s0 (nodes.set here ((nx nodes here).set j (p.1, to))) := by
  refine { w with n0 := by simpa using w.n0, nn := by simpa using w.nn, n40 := by simpa using w.n40, tu := fun i q hq => ?_, nod := fun i => ?_ }
  · rw [nx_set hh] at hq
    rw [List.length_set]
    split at hq
    · rcases List.mem_or_eq_of_mem_set hq with hq | hq
      · exact w.tu here q hq
      · rw [hq]; exact ⟨(w.tu here p (List.mem_of_getElem? hp)).1, ht⟩
    · exact w.tu i q hq
  · rw [nx_set hh]
    split
    · have : ((nx nodes here).set j (p.1, to)).map (·.1) = (nx nodes here).map (·.1) := by
        rw [List.map_set]
        obtain ⟨hj, ej⟩ := List.getElem?_eq_some_iff.mp hp
        refine List.ext_getElem? fun k => ?_
        rw [List.getElem?_set]
        by_cases e : j = k
        · subst e; simp [hj, ej]
        · simp [e]
      rw [this]; exact w.nod here
    · exact w.nod i
theorem set_t {l : List Turn} {j : Nat} {t : Turn} (h : j < l.length) (hl : l.length ≤ 1000) : setL (l.map tD) (.int (j : Nat)) (tD t) = some ((l.set j t).map tD) := by
  rw [set_l (by simpa using h), List.map_set]
end W

namespace W
open PySem VL
theorem led_ok {store : List D} (hs : St store) {ni : Nat} {ns : List (List Nat)} {s0 : List Nat} {nodes : List (List Turn)} (w : Ws ni ns s0 nodes) :
    Sat (m__law_led_elsewhere store (nD nodes)) (fun r => St r.2.1 ∧ ∃ nodes', r.2.2 = nD nodes' ∧ Ws ni ns s0 nodes') := by
  have n0 := w.n0
  have n40 := w.n40
  unfold m__law_led_elsewhere
  rw [nd_len]
  refine sat_rb (take_ok hs n0 (by omega)) fun r ⟨⟨here, eh, hh⟩, st⟩ => ?_
  obtain ⟨r1, r2⟩ := r
  dsimp only at eh st
  subst eh
  have hl := w.len here
  have hx := ixNd_n hh
  refine sat_ob hx (sat_ob (c := !decide ((nx nodes here) = [])) ?_ ?_)
  · rw [nd_at, ne_nil (turns_plain _) (by have := turns_dep (nx nodes here); omega)]
    cases nx nodes here <;> rfl
  refine sat_rb (P := fun q => St q.2 ∧ (q.1 = true → (nx nodes here) ≠ [])) (sat_if (fun h => sat_rb (take_ok st (n := 2) (by decide) (by decide)) fun r ⟨⟨k, ek, hk⟩, st⟩ => ?_) fun h => sat_ok ⟨st, fun h => by cases h⟩) fun q ⟨st, hq⟩ => sat_if (fun hb => ?_) fun _ => sat_ok ⟨st, nodes, rfl, w⟩
  · rw [ek]
    exact sat_ob eq_int (sat_ok ⟨st, fun _ => by simpa using h⟩)
  have hne := hq hb
  have hpos : 0 < (nx nodes here).length := List.length_pos_iff.mpr hne
  refine sat_ob hx ?_
  rw [nd_at]
  refine sat_ob len_l ?_
  rw [List.length_map]
  refine sat_rb (take_ok st hpos (by omega)) fun r ⟨⟨j, ej, hj⟩, st⟩ => ?_
  obtain ⟨r3, r4⟩ := r
  dsimp only at ej st
  subst ej
  have ep : (nx nodes here)[j]? = some (nx nodes here)[j] := List.getElem?_eq_getElem hj
  generalize (nx nodes here)[j] = p at ep
  refine sat_ob hx ?_
  rw [nd_at]
  refine sat_ob (ix_l (d := tD p) (by rw [List.getElem?_map, ep]; rfl)) (sat_ob (c := (.str p.1, .int (p.2 : Nat))) rfl (sat_rb (take_ok st n0 (by omega)) fun r ⟨⟨to, et, ht⟩, st⟩ => ?_))
  obtain ⟨r5, r6⟩ := r
  dsimp only at et st
  subst et
  refine sat_ob hx ?_
  rw [nd_at]
  refine sat_ob (set_t (t := (p.1, to)) hj (by omega)) (sat_ok ⟨st, _, nd_set _ _ _, w.led hh ep ht⟩)
theorem law_true (ns : List Int) (hl : ns.length ≤ 63) : m_law (.lst (ns.map .int)) = .ok (.bl true) := by
  refine of_sat ?_
  unfold m_law
  obtain ⟨n, hn, en⟩ : ∃ n : Nat, n ≤ 12 ∧ minD (.int (if (3 : Int) > (ns.map D.int).length then 3 else (ns.map D.int).length)) (.int 12) = some (.int (n : Nat)) := by
    refine ⟨(min (max ns.length 3) 12), by omega, ?_⟩
    show some (D.int _) = _
    congr 2
    simp only [List.length_map]
    split <;> split <;> omega
  refine sat_ob len_l (sat_ob (c := .int (if (3 : Int) > (ns.map D.int).length then 3 else (ns.map D.int).length)) rfl (sat_ob en (sat_ob (rng0 (by omega)) (sat_rb (sat_forL0 (I := fun _ => True) trivial fun z d hd _ => ?_) fun o ho => ?_))))
  · simp only [List.mem_map, List.mem_range] at hd
    obtain ⟨k, hk, rfl⟩ := hd
    refine sat_rb (cell_ok ns hl k (by omega)) fun c ⟨c0, ec⟩ => ?_
    subst ec
    refine sat_rb (store_ok c0) fun s hs => sat_rb (take_ok hs (n := 8) (by decide) (by decide)) fun r ⟨⟨j, ej, hj⟩, hs2⟩ => ?_
    obtain ⟨r1, r2⟩ := r
    dsimp only at ej hs2
    subst ej
    obtain ⟨most, hm, em⟩ : ∃ most : Nat, (most = 12 ∨ most = 40) ∧ ixD (.lst [(.int 12), (.int 12), (.int 12), (.int 12), (.int 12), (.int 12), (.int 12), (.int 40)]) (.int (j : Nat)) = some (.int (most : Nat)) := by
      match j, hj with
      | 0, _ => exact ⟨12, .inl rfl, rfl⟩
      | 1, _ => exact ⟨12, .inl rfl, rfl⟩
      | 2, _ => exact ⟨12, .inl rfl, rfl⟩
      | 3, _ => exact ⟨12, .inl rfl, rfl⟩
      | 4, _ => exact ⟨12, .inl rfl, rfl⟩
      | 5, _ => exact ⟨12, .inl rfl, rfl⟩
      | 6, _ => exact ⟨12, .inl rfl, rfl⟩
      | 7, _ => exact ⟨40, .inr rfl, rfl⟩
    refine sat_ob em (sat_rb (sheet_okT hs2 hm) fun r hr => ?_)
    obtain ⟨r1, r2⟩ := r
    obtain ⟨ni, nms, s0, nodes, e1, w, co, hs3⟩ := hr
    dsimp only at e1 hs3
    subst e1
    show Sat (rb (m_is_sheet (VL.T.er (.tt (shP [0, 0, 0, 2] [.lst (dn (nms.take ni)), .lst (dn (nms.drop ni)), .str s0, NL nodes])))) _) _
    rw [er_pp]
    refine sat_rb (is_sheetS w) fun d ⟨b, eb, hb⟩ => ?_
    have hbt : b = true := hb.mpr co
    subst hbt
    subst eb
    refine sat_if (fun _ => ?_) fun h => absurd rfl h
    refine sat_ob (c := false) rfl (sat_if (fun h => by cases h) fun _ => sat_ob (c := nD nodes) ?_ ?_)
    · show rowsOf _ = _
      exact rowsOf_ll _
    refine sat_rb (led_ok hs3 w) fun r ⟨st, nodes', e2, w2⟩ => ?_
    obtain ⟨r3, r4, r5⟩ := r
    dsimp only at st e2
    subst e2
    have es : T.er (.tt (shP [0, 0, 0, 2] ([.lst (dn (nms.take ni)), .lst (dn (nms.drop ni)), .str s0, NL nodes].set 3 (llD (nD nodes'))))) = sheetS ni nms s0 nodes' := by rw [er_pp]; rfl
    simp only [es]
    refine sat_rbe (copy_okT _ _ _ _) (sat_rb (lsigns_gen w2.toWf) fun d hd => ?_)
    obtain ⟨b, eb, hb⟩ : ∃ b : Bool, nnD d .non = some b ∧ (b = true ↔ Cons nms s0 nodes') := by
      rcases hd with ⟨ρ, seen, rfl, v, _⟩ | ⟨rfl, nc⟩
      · exact ⟨true, rfl, by simp; exact ⟨ρ, v⟩⟩
      · exact ⟨false, rfl, by simp [nc]⟩
    refine sat_ob eb (sat_ob (rng0 (n := 2) (by decide)) (sat_rb (sat_forL0 (I := fun _ => True) trivial fun z d hd _ => ?_) fun o ho => ?_))
    · refine sat_rb (is_sheetS w2) fun d ⟨b2, e2, hb2⟩ => ?_
      have hbb : b2 = b := by
        rw [Bool.eq_iff_iff, hb2, hb]
      subst hbb
      subst e2
      refine sat_ob (c := true) rfl (sat_ob (c := true) rfl (sat_rb (P := fun p => p.1 = false) ?_ fun p hp => sat_if (fun h => by rw [hp] at h; cases h) fun _ => sat_ok ⟨_, rfl, trivial⟩))
      refine sat_if (fun h => by cases h) fun _ => sat_ob (c := false) ?_ (sat_rb (P := fun p => p.1 = false) (sat_if (fun h => by cases h) fun _ => sat_ob (ne_same (sheetS_plain _ _ _ _) (sheetS_dep _ _ _ _)) (sat_ok rfl)) fun p hp => sat_ok hp)
      cases b2 <;> rfl
    · obtain ⟨z, rfl, _⟩ := ho
      exact sat_ok ⟨_, rfl, trivial⟩
  · obtain ⟨z, rfl, _⟩ := ho
    exact sat_ok rfl
end W

open PySem PySem.W PyProof.Rows
set_option maxHeartbeats 0 in
theorem PySem.Challenge.cw_anydelay_k28_sheets_told_holds : PySem.Challenge.rw_anydelay_k28_sheets_told.Holds := by
  w_on; o_law; k_head; (case hw => w_witness2)
  k_fill
  refine VL.walk_ofE (l := PySem.Challenge.rw_anydelay_k28_sheets_told) (k := 5) (mir := fun a => W.m_law a) rfl rfl ⟨rfl, by decide, by decide⟩ (fun w h Y => PySem.W.kIn_of Y) ?F (fun w => by rfl) W.law_true
  case F =>
    intro w mg fa h KX G hmg
    refine' W.all_mk KX G hmg ?a0 ?l0 ?c0 ?k0 ?a1 ?l1 ?c1 ?k1 ?a2 ?l2 ?c2 ?k2 ?a3 ?l3 ?c3 ?k3 ?a4 ?l4 ?c4 ?k4 ?a5 ?l5 ?c5 ?k5 ?a6 ?l6 ?c6 ?k6 ?a7 ?l7 ?c7 ?k7 ?a8 ?l8 ?c8 ?k8 ?a9 ?l9 ?c9 ?k9 ?a10 ?l10 ?c10 ?k10 ?a11 ?l11 ?c11 ?k11 ?a12 ?l12 ?c12 ?k12 ?a13 ?l13 ?c13 ?k13 ?a14 ?l14 ?c14 ?k14 ?a15 ?l15 ?c15 ?k15 ?a16 ?l16 ?c16 ?k16 ?a17 ?l17 ?c17 ?k17 ?a18 ?l18 ?c18 ?k18 ?z_bool ?z_int ?z_isinstance ?z_len ?z_list ?z_max ?z_min ?z_range ?z_set ?z_str ?z_tuple ?cg_LETTERS ?cg_MOST_NODES
    (case a0 => k_is)
    (case l0 => k_is)
    (case c0 => k_is)
    (case k0 => k_is)
    (case a1 => k_is)
    (case l1 => k_is)
    (case c1 => k_is)
    (case k1 => k_is)
    (case a2 => k_is)
    (case l2 => k_is)
    (case c2 => k_is)
    (case k2 => k_is)
    (case a3 => k_is)
    (case l3 => k_is)
    (case c3 => k_is)
    (case k3 => k_is)
    (case a4 => k_is)
    (case l4 => k_is)
    (case c4 => k_is)
    (case k4 => k_is)
    (case a5 => k_is)
    (case l5 => k_is)
    (case c5 => k_is)
    (case k5 => k_is)
    (case a6 => k_is)
    (case l6 => k_is)
    (case c6 => k_is)
    (case k6 => k_is)
    (case a7 => k_is)
    (case l7 => k_is)
    (case c7 => k_is)
    (case k7 => k_is)
    (case a8 => k_is)
    (case l8 => k_is)
    (case c8 => k_is)
    (case k8 => k_is)
    (case a9 => k_is)
    (case l9 => k_is)
    (case c9 => k_is)
    (case k9 => k_is)
    (case a10 => k_is)
    (case l10 => k_is)
    (case c10 => k_is)
    (case k10 => k_is)
    (case a11 => k_is)
    (case l11 => k_is)
    (case c11 => k_is)
    (case k11 => k_is)
    (case a12 => k_is)
    (case l12 => k_is)
    (case c12 => k_is)
    (case k12 => k_is)
    (case a13 => k_is)
    (case l13 => k_is)
    (case c13 => k_is)
    (case k13 => k_is)
    (case a14 => k_is)
    (case l14 => k_is)
    (case c14 => k_is)
    (case k14 => k_is)
    (case a15 => k_is)
    (case l15 => k_is)
    (case c15 => k_is)
    (case k15 => k_is)
    (case a16 => k_is)
    (case l16 => k_is)
    (case c16 => k_is)
    (case k16 => k_is)
    (case a17 => k_is)
    (case l17 => k_is)
    (case c17 => k_is)
    (case k17 => k_is)
    (case a18 => k_is)
    (case l18 => k_is)
    (case c18 => k_is)
    (case k18 => k_is)
    (case z_bool => k_is)
    (case z_int => k_is)
    (case z_isinstance => k_is)
    (case z_len => k_is)
    (case z_list => k_is)
    (case z_max => k_is)
    (case z_min => k_is)
    (case z_range => k_is)
    (case z_set => k_is)
    (case z_str => k_is)
    (case z_tuple => k_is)
    (case cg_LETTERS => k_is)
    (case cg_MOST_NODES => k_is)

