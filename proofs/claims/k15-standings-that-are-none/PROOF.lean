import PyProof.Rows.All
import KE.KDictZip
import PyProof.EnumMake
import PyProof.Draws
import HandS.Conv
import Wide.All
import OpenK.AllK
import Wide.FinOn
import HandS.ForMost
import HandS.ForExc
import HandS.Walk
import HandS.IsInst
import KE.KDictKeyed
import HandS.More
import HandS.ExcInit
import HandS.ExcField
import KE.KExcIs
import HandS.Style
import HandS.SetFor
import PyProof.SeqRoads2
import KE.SortData
import HandS.DictEq
import HandS.TupAny
import HandS.Iter
import KE.KDictSum
import HandS.DictTup
import HandS.ListItems
import HandS.StrMore
import KE.KEqDict
import KE.KDictWalk
import HandS.Text
import HandS.Zip
import HandS.ReplaceLit
import PyProof.Rows.StrStrike
import HandS.Codes
import KE.KDictDisplayH
import HandS.TupLen
import KE.DataFind
import KE.KIndexOf
import HandS.HotCalls
import PySem.Challenge.RW_anydelay_k15_standings_that_are_none
set_option Elab.async false
set_option linter.all false
set_option maxRecDepth 100000
namespace VL
open PySem L2
abbrev NX := List (NestedKey × Addr × Value)

/-! data, results -/
inductive D where
  | non | bl (b : Bool) | int (i : Int) | str (x : List Nat) | tup (l : List D) | lst (l : List D) | dct (k : Bool) (l : List (D × D)) | opq (v : Option V) | exc (k : Nat) (l : List D) | fd (o : Obj) (kvs : List (Key × V)) (l : List (D × D)) | fz (l : List (D × D))
abbrev Lab := List Nat
inductive T where
  | f (x : D) | l (ds : List D) | ll (ts : List T) | tt (ts : List T) | dc (k : Bool) (kvs : List (D × D)) | dl (ks : List D) (ts : List T) | ob (k : Nat) (ks : List Str) (ts : List T) | nx (ep : Nat) (xs : NX) (l : List (D × D)) | no (ep : Nat) (xs : NX) (l : List (D × D)) | hole (w : V)
structure Ex where
  k : Nat
  a : Option D
inductive Res (α : Type) where
  | ok (a : α) | err (e : Ex) | fail
def rb {α β : Type} (m : Res α) (k : α → Res β) : Res β := match m with | .ok a => k a | .err e => .err e | .fail => .fail
def ob {α β : Type} (m : Option α) (k : α → Res β) : Res β := match m with | some a => k a | none => .fail
theorem rb_cases {α β : Type} {m : Res α} {k : α → Res β} (h : rb m k ≠ .fail) : (∃ a, m = .ok a ∧ rb m k = k a) ∨ (∃ e, m = .err e ∧ rb m k = .err e) := by
  cases m with
  | ok a => exact .inl ⟨a, rfl, rfl⟩
  | err e => exact .inr ⟨e, rfl, rfl⟩
  | fail => exact absurd rfl h
theorem ob_cases {α β : Type} {m : Option α} {k : α → Res β} (h : ob m k ≠ .fail) : ∃ a, m = some a ∧ ob m k = k a := by
  cases m with
  | some a => exact ⟨a, rfl, rfl⟩
  | none => exact absurd rfl h

def mkS (l : List Nat) : Str := ⟨l.toArray⟩
theorem mkS_cps (l : List Nat) : (mkS l).cps.toList = l := by simp [mkS]
theorem mkS_len (l : List Nat) : (mkS l).length = l.length := by simp [mkS, Str.length]
theorem mkS_of (x : Str) : mkS x.cps.toList = x := by simp [mkS]
theorem mkS_inj {a b : List Nat} (h : mkS a = mkS b) : a = b := by
  have := congrArg (fun s : Str => s.cps.toList) h
  simpa [mkS] using this

/-! what a value tells, in a heap -/
def kD : Key → D
  | .inl i => .int i
  | .inr x => .str x.cps.toList
/-! dicts keyed by nested tuples -/
mutual
def nkD : D → Option NestedKey
  | .non => some .none
  | .bl b => some (.num (if b = true then 1 else 0))
  | .int i => some (.num i)
  | .str x => some (.text (mkS x))
  | .tup l => (nkDs l).map .tup
  | _ => none
def nkDs : List D → Option (List NestedKey)
  | [] => some []
  | d :: r => match nkD d, nkDs r with | some k, some q => some (k :: q) | _, _ => none
end
def exN (w : World) (a : Addr) (ep : Nat) (xs : NX) : HO :=
  .ext fun h => ∃ o es, h.get? a = some o ∧ o.ExactDict ∧ o.data = .dict es ep ∧ es.toList = xs.map fun x => (⟨x.1.hash w, .ref x.2.1, x.2.2⟩ : DictEntry)
def NDg (a : Addr) (xs : NX) : Prop := (xs.map (·.1)).Nodup ∧ xs.length ≤ sizeLine ∧ (a == sysModules) = false
/-! exceptions: the address of each class; an exception that was caught -/
class EC where
  ec : Nat → Addr
  pg : Program
  wd : World
variable [EC]
def exH (x C : Addr) (dd : Option Addr) : HO := .ext fun h => ∃ (oe : Obj) (vs : Array Value), h.get? x = some oe ∧ Zc (.ref C) dd oe ∧ oe.data = .fields vs
mutual
def Rep (G : Hp) : D → V → Prop
  | .non, v => v = .non
  | .bl b, v => v = .bl b
  | .int i, v => v = .int i
  | .str x, v => v = .str (mkS x)
  | .tup l, v => ∃ a vs, v = .ref a ∧ G a = some (.tup vs) ∧ l.length ≤ sizeLine ∧ Reps G l vs
  | .lst l, v => ∃ a vs, v = .ref a ∧ Rd G a (.lst vs) ∧ l.length ≤ sizeLine ∧ Reps G l vs
  | .dct false l, v => ∃ a kvs, v = .ref a ∧ Rd G a (.dK kvs) ∧ RepK G l kvs
  | .dct true l, v => ∃ a ep xs, v = .ref a ∧ G a = some (exN EC.wd a ep xs) ∧ NDg a xs ∧ RepX G l xs
  | .opq w, v => ∀ u, w = some u → v = u
  | .exc k l, v => ∃ x dd us, v = .ref x ∧ G x = some (exH x (EC.ec k) dd) ∧ Reps G l us ∧ ((us = [] ∧ dd = none) ∨ ∃ u dx, us = [u] ∧ dd = some dx ∧ G dx = some (.xd [("at", u)]))
  | .fd o kvs l, v => ∃ a, v = .ref a ∧ G a = some (.frz o (.dK kvs)) ∧ RepK G l kvs
  | .fz l, v => ∃ a o kvs, v = .ref a ∧ G a = some (.frz o (.dK kvs)) ∧ RepK G l kvs
def Reps (G : Hp) : List D → List V → Prop
  | [], vs => vs = []
  | d :: ds, vs => ∃ v r, vs = v :: r ∧ Rep G d v ∧ Reps G ds r
def RepK (G : Hp) : List (D × D) → List (Key × V) → Prop
  | [], vs => vs = []
  | (k, d) :: ds, vs => ∃ kk v r, vs = (kk, v) :: r ∧ k = kD kk ∧ Rep G d v ∧ RepK G ds r
def RepX (G : Hp) : List (D × D) → NX → Prop
  | [], xs => xs = []
  | (k, d) :: ds, xs => ∃ kk b u x r, xs = (kk, b, u) :: r ∧ nkD k = some kk ∧ kk.depth ≤ 8 ∧ RelV x u ∧ Rep G k (.ref b) ∧ Rep G d x ∧ RepX G ds r
end
theorem Same.rd {G G' : Hp} (s : Same G G') {a : Addr} {o : HO} (h : Rd G a o) : Rd G' a o := by
  rcases h with h | ⟨x, h⟩
  · exact .inl (s _ _ h)
  · exact .inr ⟨x, s _ _ h⟩
mutual
theorem Rep.mono {G G' : Hp} (s : Same G G') : ∀ (d : D) (v : V), Rep G d v → Rep G' d v
  | .non, _, h => h
  | .bl _, _, h => h
  | .int _, _, h => h
  | .str _, _, h => h
  | .opq _, _, h => h
  | .exc k l, _, ⟨x, dd, us, e, r, q, z⟩ => ⟨x, dd, us, e, s _ _ r, Reps.mono s l us q, z.imp id fun ⟨u, dx, a, b, c⟩ => ⟨u, dx, a, b, s _ _ c⟩⟩
  | .fd o kvs l, _, ⟨a, e, r, q⟩ => ⟨a, e, s _ _ r, RepK.mono s l kvs q⟩
  | .fz l, _, ⟨a, o, kvs, e, r, q⟩ => ⟨a, o, kvs, e, s _ _ r, RepK.mono s l kvs q⟩
  | .tup l, _, ⟨a, vs, e, r, z, q⟩ => ⟨a, vs, e, s _ _ r, z, Reps.mono s l vs q⟩
  | .lst l, _, ⟨a, vs, e, r, z, q⟩ => ⟨a, vs, e, Same.rd s r, z, Reps.mono s l vs q⟩
  | .dct false l, _, ⟨a, kvs, e, r, q⟩ => ⟨a, kvs, e, Same.rd s r, RepK.mono s l kvs q⟩
  | .dct true l, _, ⟨a, ep, xs, e, r, g, q⟩ => ⟨a, ep, xs, e, s _ _ r, g, RepX.mono s l xs q⟩
theorem Reps.mono {G G' : Hp} (s : Same G G') : ∀ (l : List D) (vs : List V), Reps G l vs → Reps G' l vs
  | [], _, h => h
  | d :: ds, _, ⟨v, r, e, h, q⟩ => ⟨v, r, e, Rep.mono s d v h, Reps.mono s ds r q⟩
theorem RepK.mono {G G' : Hp} (s : Same G G') : ∀ (l : List (D × D)) (vs : List (Key × V)), RepK G l vs → RepK G' l vs
  | [], _, h => h
  | (k, d) :: ds, _, ⟨kk, v, r, e, ek, h, q⟩ => ⟨kk, v, r, e, ek, Rep.mono s d v h, RepK.mono s ds r q⟩
theorem RepX.mono {G G' : Hp} (s : Same G G') : ∀ (l : List (D × D)) (xs : NX), RepX G l xs → RepX G' l xs
  | [], _, h => h
  | (k, d) :: ds, _, ⟨kk, b, u, x, r, e, ek, dp, rv, hk, h, q⟩ => ⟨kk, b, u, x, r, e, ek, dp, rv, Rep.mono s k _ hk, Rep.mono s d x h, RepX.mono s ds r q⟩
end
theorem Reps.length {G : Hp} : ∀ {l : List D} {vs : List V}, Reps G l vs → l.length = vs.length
  | [], _, h => by cases h; rfl
  | d :: ds, _, ⟨v, r, e, h, q⟩ => by subst e; simp [Reps.length q]
theorem Reps.get {G : Hp} : ∀ {l : List D} {vs : List V} {i : Nat} {d : D}, Reps G l vs → l[i]? = some d → ∃ v, vs[i]? = some v ∧ Rep G d v
  | [], _, _, _, _, e => by simp at e
  | d :: ds, _, 0, x, ⟨v, r, e, h, q⟩, e2 => by subst e; simp at e2; subst e2; exact ⟨v, rfl, h⟩
  | d :: ds, _, i + 1, x, ⟨v, r, e, h, q⟩, e2 => by
    subst e
    obtain ⟨v', a, b⟩ := Reps.get (i := i) q (by simpa using e2)
    exact ⟨v', by simpa using a, b⟩
theorem Reps.of {G : Hp} : ∀ {l : List D} {vs : List V}, l.length = vs.length → (∀ (i : Nat) d v, l[i]? = some d → vs[i]? = some v → Rep G d v) → Reps G l vs
  | [], [], _, _ => rfl
  | [], _ :: _, e, _ => by simp at e
  | _ :: _, [], e, _ => by simp at e
  | d :: ds, v :: vs, e, h => ⟨v, vs, rfl, h 0 d v rfl rfl, Reps.of (by simpa using e) fun i d' v' a b => h (i + 1) d' v' (by simpa using a) (by simpa using b)⟩
theorem Reps.append {G : Hp} : ∀ {l m : List D} {vs ws : List V}, Reps G l vs → Reps G m ws → Reps G (l ++ m) (vs ++ ws)
  | [], _, _, _, h, q => by cases h; exact q
  | d :: ds, _, _, _, ⟨v, r, e, h, q⟩, q2 => by subst e; exact ⟨v, r ++ _, rfl, h, Reps.append q q2⟩
theorem Reps.take {G : Hp} (n : Nat) : ∀ {l : List D} {vs : List V}, Reps G l vs → Reps G (l.take n) (vs.take n) := fun {l vs} h => by
  refine Reps.of (by simp [h.length]) fun i d v a b => ?_
  rw [List.getElem?_take] at a b
  split at a
  · rename_i hi
    rw [if_pos hi] at b
    obtain ⟨v', e, r⟩ := h.get a
    rw [b] at e; cases e; exact r
  · cases a
theorem Reps.drop {G : Hp} (n : Nat) : ∀ {l : List D} {vs : List V}, Reps G l vs → Reps G (l.drop n) (vs.drop n) := fun {l vs} h => by
  refine Reps.of (by simp [h.length]) fun i d v a b => ?_
  rw [List.getElem?_drop] at a b
  obtain ⟨v', e, r⟩ := h.get a
  rw [b] at e; cases e; exact r
theorem Reps.set {G : Hp} {l : List D} {vs : List V} {d : D} {v : V} (i : Nat) (h : Reps G l vs) (r : Rep G d v) : Reps G (l.set i d) (vs.set i v) := by
  refine Reps.of (by simp [h.length]) fun j d' v' a b => ?_
  rw [List.getElem?_set] at a b
  have hl := h.length
  split at a
  · rename_i hj
    split at a
    · rename_i hj2
      rw [if_pos hj, if_pos (by omega)] at b
      cases a; cases b; exact r
    · cases a
  · rename_i hj
    rw [if_neg hj] at b
    obtain ⟨w, e, r'⟩ := h.get a
    rw [b] at e; cases e; exact r'
theorem Reps.dropLast {G : Hp} {l : List D} {vs : List V} (h : Reps G l vs) : Reps G l.dropLast vs.dropLast := by
  rw [List.dropLast_eq_take, List.dropLast_eq_take, h.length]
  exact h.take _
theorem Reps.eraseIdx {G : Hp} {l : List D} {vs : List V} (k : Nat) (h : Reps G l vs) : Reps G (l.eraseIdx k) (vs.eraseIdx k) := by
  rw [List.eraseIdx_eq_take_drop_succ, List.eraseIdx_eq_take_drop_succ]
  exact (h.take k).append (h.drop (k + 1))
theorem Reps.map {G : Hp} {α : Type} (f : α → D) (g : α → V) : ∀ (xs : List α), (∀ x ∈ xs, Rep G (f x) (g x)) → Reps G (xs.map f) (xs.map g)
  | [], _ => rfl
  | x :: r, h => ⟨g x, r.map g, rfl, h x List.mem_cons_self, Reps.map f g r fun y hy => h y (List.mem_cons_of_mem _ hy)⟩

theorem RepK.ofZip {G : Hp} : ∀ (kvs : List (Key × V)) (ds : List D), Reps G ds (kvs.map Prod.snd) → RepK G ((kvs.map fun q => kD q.1).zip ds) kvs
  | [], [], _ => rfl
  | [], d :: ds, ⟨v, r, e, _⟩ => by cases e
  | q :: kvs, [], h => by cases (show _ :: _ = [] from h)
  | (k, v0) :: kvs, d :: ds, ⟨v, r, e, h, h2⟩ => by
    injection e with e1 e2
    subst e1; subst e2
    exact ⟨k, v0, kvs, rfl, rfl, h, RepK.ofZip kvs ds h2⟩
/-! owned things -/
mutual
def Own (G H : Hp) (ω : Addr → Option Lab) : Lab → T → V → Prop
  | _, .f d, v => Rep G d v
  | p, .l ds, v => ∃ a vs, v = .ref a ∧ H a = some (.lst vs) ∧ ω a = some p ∧ ds.length ≤ sizeLine ∧ Reps G ds vs
  | p, .ll ts, v => ∃ a vs, v = .ref a ∧ H a = some (.lst vs) ∧ ω a = some p ∧ ts.length ≤ sizeLine ∧ Owns G H ω p 0 ts vs
  | p, .tt ts, v => ∃ a vs, v = .ref a ∧ H a = some (.tup vs) ∧ ω a = some p ∧ ts.length ≤ sizeLine ∧ Owns G H ω p 0 ts vs
  | p, .dc false l, v => ∃ a kvs, v = .ref a ∧ ω a = some p ∧ H a = some (.dK kvs) ∧ RepK G l kvs
  | p, .dc true l, v => ∃ a ep xs, v = .ref a ∧ ω a = some p ∧ H a = some (exN EC.wd a ep xs) ∧ NDg a xs ∧ RepX G l xs
  | _, .nx ep xs l, v => ∃ a, v = .ref a ∧ G a = some (exN EC.wd a ep xs) ∧ NDg a xs ∧ RepX G l xs
  | p, .no ep xs l, v => ∃ a, v = .ref a ∧ ω a = some p ∧ H a = some (exN EC.wd a ep xs) ∧ NDg a xs ∧ RepX G l xs
  | p, .dl ks ts, v => ∃ a kvs, v = .ref a ∧ ω a = some p ∧ H a = some (.dK kvs) ∧ ks = (kvs.map fun q => kD q.1) ∧ Owns G H ω p 0 ts (kvs.map Prod.snd)
  | p, .ob k ks ts, v => ∃ a dx fs, v = .ref a ∧ ω a = some p ∧ H a = some (.ins (EC.ec k) dx fs) ∧ ks = (fs.map Prod.fst) ∧ Owns G H ω p 0 ts (fs.map Prod.snd)
  | _, .hole w, v => v = w
def Owns (G H : Hp) (ω : Addr → Option Lab) : Lab → Nat → List T → List V → Prop
  | _, _, [], vs => vs = []
  | p, i, t :: ts, vs => ∃ v r, vs = v :: r ∧ Own G H ω (p ++ [i]) t v ∧ Owns G H ω p (i + 1) ts r
end
mutual
theorem Own.move {G G' H H' : Hp} {ω ω' : Addr → Option Lab} (s : Same G G') : ∀ (p q : Lab) (t : T) (v : V), (∀ a x, ω a = some (p ++ x) → H' a = H a ∧ ω' a = some (q ++ x)) → Own G H ω p t v → Own G' H' ω' q t v
  | _, _, .f d, v, _, h => Rep.mono s d v h
  | p, q, .l ds, v, m, ⟨a, vs, e, h, w, z, r⟩ => by
    obtain ⟨m1, m2⟩ := m a [] (by rw [List.append_nil]; exact w)
    rw [List.append_nil] at m2
    exact ⟨a, vs, e, m1.trans h, m2, z, Reps.mono s ds vs r⟩
  | p, q, .ll ts, v, m, ⟨a, vs, e, h, w, z, r⟩ => by
    obtain ⟨m1, m2⟩ := m a [] (by rw [List.append_nil]; exact w)
    rw [List.append_nil] at m2
    exact ⟨a, vs, e, m1.trans h, m2, z, Owns.move s p q 0 ts vs m r⟩
  | p, q, .tt ts, v, m, ⟨a, vs, e, h, w, z, r⟩ => by
    obtain ⟨m1, m2⟩ := m a [] (by rw [List.append_nil]; exact w)
    rw [List.append_nil] at m2
    exact ⟨a, vs, e, m1.trans h, m2, z, Owns.move s p q 0 ts vs m r⟩
  | p, q, .dc false l, v, m, ⟨a, kvs, e, w, h, r⟩ => by
    obtain ⟨m1, m2⟩ := m a [] (by rw [List.append_nil]; exact w)
    rw [List.append_nil] at m2
    exact ⟨a, kvs, e, m2, m1.trans h, RepK.mono s l kvs r⟩
  | p, q, .dc true l, v, m, ⟨a, ep, xs, e, w, h, g, r⟩ => by
    obtain ⟨m1, m2⟩ := m a [] (by rw [List.append_nil]; exact w)
    rw [List.append_nil] at m2
    exact ⟨a, ep, xs, e, m2, m1.trans h, g, RepX.mono s l xs r⟩
  | p, q, .nx ep xs l, v, m, ⟨a, e, h, g, r⟩ => ⟨a, e, s _ _ h, g, RepX.mono s l xs r⟩
  | p, q, .no ep xs l, v, m, ⟨a, e, w, h, g, r⟩ => by
    obtain ⟨m1, m2⟩ := m a [] (by rw [List.append_nil]; exact w)
    rw [List.append_nil] at m2
    exact ⟨a, e, m2, m1.trans h, g, RepX.mono s l xs r⟩
  | p, q, .dl ks ts, v, m, ⟨a, kvs, e, w, h, ek, r⟩ => by
    obtain ⟨m1, m2⟩ := m a [] (by rw [List.append_nil]; exact w)
    rw [List.append_nil] at m2
    exact ⟨a, kvs, e, m2, m1.trans h, ek, Owns.move s p q 0 ts _ m r⟩
  | p, q, .ob k ks ts, v, m, ⟨a, dx, fs, e, w, h, ek, r⟩ => by
    obtain ⟨m1, m2⟩ := m a [] (by rw [List.append_nil]; exact w)
    rw [List.append_nil] at m2
    exact ⟨a, dx, fs, e, m2, m1.trans h, ek, Owns.move s p q 0 ts _ m r⟩
  | _, _, .hole _, _, _, h => h
theorem Owns.move {G G' H H' : Hp} {ω ω' : Addr → Option Lab} (s : Same G G') : ∀ (p q : Lab) (i : Nat) (ts : List T) (vs : List V), (∀ a x, ω a = some (p ++ x) → H' a = H a ∧ ω' a = some (q ++ x)) → Owns G H ω p i ts vs → Owns G' H' ω' q i ts vs
  | _, _, _, [], _, _, h => h
  | p, q, i, t :: ts, _, m, ⟨v, r, e, h, k⟩ => ⟨v, r, e, Own.move s (p ++ [i]) (q ++ [i]) t v (fun a x e => by
      rw [List.append_assoc] at e ⊢
      exact m a _ e) h, Owns.move s p q (i + 1) ts r m k⟩
end
mutual
def T.er : T → D
  | .f x => x
  | .l ds => .lst ds
  | .ll ts => .lst (T.ers ts)
  | .tt ts => .tup (T.ers ts)
  | .dc k kvs => .dct k kvs
  | .dl ks ts => .dct false (ks.zip (T.ers ts))
  | .nx _ _ kvs => .dct true kvs
  | .no _ _ kvs => .dct true kvs
  | .ob _ _ _ => .opq none
  | .hole w => .opq (some w)
def T.ers : List T → List D
  | [] => []
  | t :: ts => T.er t :: T.ers ts
end
theorem ers_eq : ∀ ts : List T, T.ers ts = ts.map T.er
  | [] => rfl
  | t :: ts => by rw [List.map_cons, ← ers_eq ts]; rfl
theorem ers_len (ts : List T) : (T.ers ts).length = ts.length := by rw [ers_eq, List.length_map]
/-! what is told, in a heap that has both -/
mutual
theorem Own.rep {G G' H : Hp} {ω : Addr → Option Lab} (s : Same G G') : ∀ (p : Lab) (t : T) (v : V), (∀ a x, ω a = some (p ++ x) → ∀ o, H a = some o → G' a = some o) → Own G H ω p t v → Rep G' t.er v
  | _, .f d, v, _, h => Rep.mono s d v h
  | p, .l ds, v, m, ⟨a, vs, e, h, w, z, r⟩ => ⟨a, vs, e, .inl (m a [] (by rw [List.append_nil]; exact w) _ h), z, Reps.mono s ds vs r⟩
  | p, .ll ts, v, m, ⟨a, vs, e, h, w, z, r⟩ => ⟨a, vs, e, .inl (m a [] (by rw [List.append_nil]; exact w) _ h), (Nat.le_trans (Nat.le_of_eq (ers_len ts)) z), Owns.rep s p 0 ts vs m r⟩
  | p, .tt ts, v, m, ⟨a, vs, e, h, w, z, r⟩ => ⟨a, vs, e, m a [] (by rw [List.append_nil]; exact w) _ h, (Nat.le_trans (Nat.le_of_eq (ers_len ts)) z), Owns.rep s p 0 ts vs m r⟩
  | p, .dc false l, v, m, ⟨a, kvs, e, w, h, r⟩ => ⟨a, kvs, e, .inl (m a [] (by rw [List.append_nil]; exact w) _ h), RepK.mono s l kvs r⟩
  | p, .dc true l, v, m, ⟨a, ep, xs, e, w, h, g, r⟩ => ⟨a, ep, xs, e, m a [] (by rw [List.append_nil]; exact w) _ h, g, RepX.mono s l xs r⟩
  | p, .nx ep xs l, v, m, ⟨a, e, h, g, r⟩ => ⟨a, ep, xs, e, s _ _ h, g, RepX.mono s l xs r⟩
  | p, .no ep xs l, v, m, ⟨a, e, w, h, g, r⟩ => ⟨a, ep, xs, e, m a [] (by rw [List.append_nil]; exact w) _ h, g, RepX.mono s l xs r⟩
  | p, .dl ks ts, v, m, ⟨a, kvs, e, w, h, ek, r⟩ => ⟨a, kvs, e, .inl (m a [] (by rw [List.append_nil]; exact w) _ h), by rw [ek]; exact RepK.ofZip kvs _ (Owns.rep s p 0 ts _ m r)⟩
  | p, .ob k ks ts, v, m, _ => fun u e => by cases e
  | _, .hole w, v, _, h => fun u e => by cases e; exact h
theorem Owns.rep {G G' H : Hp} {ω : Addr → Option Lab} (s : Same G G') : ∀ (p : Lab) (i : Nat) (ts : List T) (vs : List V), (∀ a x, ω a = some (p ++ x) → ∀ o, H a = some o → G' a = some o) → Owns G H ω p i ts vs → Reps G' (T.ers ts) vs
  | _, _, [], _, _, h => h
  | p, i, t :: ts, _, m, ⟨v, r, e, h, k⟩ => ⟨v, r, e, Own.rep s (p ++ [i]) t v (fun a x e => by
      rw [List.append_assoc] at e
      exact m a _ e) h, Owns.rep s p (i + 1) ts r m k⟩
end
end VL

namespace VL
open PySem L2
variable [EC]

/-- a def's frame: what stood at its entry -/
structure Fc where
  K : PySem.W.Frag
  G0 : Hp
  H0 : Hp
  w0 : Addr → Option Lab
  E : XK
  ec : Nat → Addr
  pv : Nat → Option V
inductive TM where
  | own (t : T) | ali (i : Nat)
abbrev State := List (Option T)
abbrev Tmp := List (V × TM)
def TmOk (G H : Hp) (ω : Addr → Option Lab) (σ : St) (p : Lab) : TM → V → Prop
  | .own t, v => Own G H ω p t v
  | .ali i, v => σ[i]? = some (some v)
def Tms (G H : Hp) (ω : Addr → Option Lab) (σ : St) : Tmp → Prop
  | [] => True
  | x :: r => TmOk G H ω σ [1, r.length] x.2 x.1 ∧ Tms G H ω σ r
structure Hd (F : Fc) (G : Hp) (ω : Addr → Option Lab) (tmp : Tmp) (s : State) (σ : St) (H : Hp) : Prop where
  g0 : Same F.G0 G
  gH : Same G H
  gn : ∀ a o, G a = some o → F.G0 a = some o ∨ F.H0 a = none ∨ (F.w0 a).isSome = true
  fr : ∀ a o, F.H0 a = some o → F.w0 a = none → H a = some o
  ex : ∀ a o, F.H0 a = some o → ∃ o', H a = some o'
  wg : ∀ a p, ω a = some p → G a = none ∧ (∃ o, H a = some o) ∧ (F.H0 a = none ∨ (F.w0 a).isSome = true)
  len : σ.length = s.length
  sl : ∀ i t, s[i]? = some (some t) → ∃ v, σ[i]? = some (some v) ∧ Own G H ω [0, i] t v
  tm : Tms G H ω σ tmp
  pn : ∀ k v, F.pv k = some v → σ[k]? = some (some v)
def Holds (F : Fc) (tmp : Tmp) (s : State) (σ : St) (H : Hp) : Prop := ∃ G ω, Hd F G ω tmp s σ H

/-- temporaries stay where their labels' objects stay -/
theorem Tms.move {G G' H H' : Hp} {ω ω' : Addr → Option Lab} {σ : St} (s : Same G G') : ∀ (tmp : Tmp), (∀ j a x, j < tmp.length → ω a = some ([1, j] ++ x) → H' a = H a ∧ ω' a = some ([1, j] ++ x)) →
    Tms G H ω σ tmp → Tms G' H' ω' σ tmp
  | [], _, _ => trivial
  | x :: r, m, ⟨a, b⟩ => by
    refine ⟨?_, Tms.move s r (fun j a x hj e => m j a x (Nat.lt_succ_of_lt hj) e) b⟩
    obtain ⟨v, tm⟩ := x
    cases tm with
    | own t => exact Own.move s _ _ t v (fun a x e => m _ a x (Nat.lt_succ_self _) e) a
    | ali i => exact a
section
variable {F : Fc} {G H H' : Hp} {ω : Addr → Option Lab} {tmp : Tmp} {s : State} {σ : St} {v : V} {t : T} {d : D}
theorem Hd.new (h : Hd F G ω tmp s σ H) {p : Addr} (n : H p = none) : F.H0 p = none := by
  cases e : F.H0 p with
  | none => rfl
  | some o =>
    obtain ⟨o', e'⟩ := h.ex p o e
    rw [n] at e'; cases e'
theorem Hd.gfree (h : Hd F G ω tmp s σ H) {p : Addr} (n : H p = none) : G p = none := by
  cases e : G p with
  | none => rfl
  | some o => rw [h.gH p o e] at n; cases n
theorem Hd.pop (h : Hd F G ω (x :: tmp) s σ H) : Hd F G ω tmp s σ H := { h with tm := h.tm.2 }
theorem Holds.pop {x : V × TM} (h : Holds F (x :: tmp) s σ H) : Holds F tmp s σ H := let ⟨G, ω, q⟩ := h; ⟨G, ω, q.pop⟩
theorem Holds.len (h : Holds F tmp s σ H) : σ.length = s.length := let ⟨_, _, q⟩ := h; q.len
/-- a frozen temporary on top -/
theorem Hd.pushF (h : Hd F G ω tmp s σ H) (r : Rep G d v) : Hd F G ω ((v, .own (.f d)) :: tmp) s σ H := { h with tm := ⟨r, h.tm⟩ }
theorem Hd.topF (h : Hd F G ω ((v, .own (.f d)) :: tmp) s σ H) : Rep G d v := h.tm.1
theorem upd_keep {p a : Addr} {o u : HO} (n : H p = none) (e : H a = some o) : upd H p u a = some o := by rw [upd_ne (ne_of_none e n)]; exact e
/-- a new object, frozen -/
theorem Hd.newG (h : Hd F G ω tmp s σ H) {p : Addr} {o : HO} (n : H p = none) : Hd F (upd G p o) ω tmp s σ (upd H p o) := by
  have gn := h.gfree n
  have sG : Same G (upd G p o) := fun a u e => upd_keep gn e
  have keep : ∀ a q, ω a = some q → upd H p o a = H a := fun a q e => by
    obtain ⟨_, ⟨u, e'⟩, _⟩ := h.wg a q e
    exact upd_ne (ne_of_none e' n)
  refine ⟨h.g0.trans sG, fun a u e => ?_, fun a u e => ?_, fun a u e w => upd_keep n (h.fr a u e w), fun a u e => ?_, fun a q e => ?_, h.len, fun i t e => ?_, Tms.move sG tmp (fun j a x _ e => ⟨keep a _ e, e⟩) h.tm, h.pn⟩
  · by_cases ha : a = p
    · subst ha; rw [upd_same] at e ⊢; exact e
    · rw [upd_ne ha] at e ⊢; exact h.gH a u e
  · by_cases ha : a = p
    · subst ha; exact .inr (.inl (h.new n))
    · rw [upd_ne ha] at e; exact h.gn a u e
  · obtain ⟨o', e'⟩ := h.ex a u e
    exact ⟨o', upd_keep n e'⟩
  · obtain ⟨q1, ⟨u, q2⟩, q3⟩ := h.wg a q e
    refine ⟨?_, ⟨u, upd_keep n q2⟩, q3⟩
    rw [upd_ne (ne_of_none q2 n)]; exact q1
  · obtain ⟨v, e1, e2⟩ := h.sl i t e
    exact ⟨v, e1, Own.move sG _ _ t v (fun a x e => ⟨keep a _ e, e⟩) e2⟩
/-- a new object, owned by a new temporary -/
theorem Hd.newO (h : Hd F G ω tmp s σ H) {p : Addr} {o : HO} (n : H p = none) (q : Own G (upd H p o) (fun a => if a = p then some [1, tmp.length] else ω a) [1, tmp.length] t (.ref p)) :
    Hd F G (fun a => if a = p then some [1, tmp.length] else ω a) ((.ref p, .own t) :: tmp) s σ (upd H p o) := by
  have keep : ∀ a q, ω a = some q → upd H p o a = H a ∧ (if a = p then some [1, tmp.length] else ω a) = some q := fun a q e => by
    obtain ⟨_, ⟨u, e'⟩, _⟩ := h.wg a q e
    have ne := ne_of_none e' n
    exact ⟨upd_ne ne, by rw [if_neg ne]; exact e⟩
  refine ⟨h.g0, fun a u e => upd_keep n (h.gH a u e), h.gn, fun a u e w => upd_keep n (h.fr a u e w), fun a u e => ?_, fun a q e => ?_, h.len, fun i t e => ?_, ⟨q, Tms.move (Same.refl _) tmp (fun j a x _ e => keep a _ e) h.tm⟩, h.pn⟩
  · obtain ⟨o', e'⟩ := h.ex a u e
    exact ⟨o', upd_keep n e'⟩
  · by_cases ha : a = p
    · subst ha; exact ⟨h.gfree n, ⟨o, upd_same⟩, .inl (h.new n)⟩
    · simp only [if_neg ha] at e
      obtain ⟨q1, ⟨u, q2⟩, q3⟩ := h.wg a q e
      exact ⟨q1, ⟨u, upd_keep n q2⟩, q3⟩
  · obtain ⟨v, e1, e2⟩ := h.sl i t e
    exact ⟨v, e1, Own.move (Same.refl _) _ _ t v (fun a x e => keep a _ e) e2⟩
theorem Hd.newL (h : Hd F G ω tmp s σ H) {p : Addr} {ds : List D} {vs : List V} (n : H p = none) (z : ds.length ≤ sizeLine) (r : Reps G ds vs) : Holds F ((.ref p, .own (.l ds)) :: tmp) s σ (upd H p (.lst vs)) :=
  ⟨G, _, h.newO n ⟨p, vs, rfl, upd_same, by simp, z, r⟩⟩
theorem Hd.newT (h : Hd F G ω tmp s σ H) {p : Addr} {ds : List D} {vs : List V} (n : H p = none) (z : ds.length ≤ sizeLine) (r : Reps G ds vs) : Holds F ((.ref p, .own (.f (.tup ds))) :: tmp) s σ (upd H p (.tup vs)) :=
  ⟨_, ω, (h.newG n).pushF ⟨p, vs, rfl, upd_same, z, Reps.mono (fun a u e => upd_keep (h.gfree n) e) _ _ r⟩⟩

/-! freezing -/
def pre : Lab → Lab → Bool
  | [], _ => true
  | _ :: _, [] => false
  | a :: p, b :: q => a == b && pre p q
theorem pre_app : ∀ (p x : Lab), pre p (p ++ x) = true
  | [], _ => rfl
  | a :: p, x => by simp [pre, pre_app p x]
/-- label p is frozen -/
def frzG (G H : Hp) (ω : Addr → Option Lab) (p : Lab) : Hp := fun a => match ω a with
  | some q => if pre p q = true then H a else G a
  | none => G a
def frzW (ω : Addr → Option Lab) (p : Lab) : Addr → Option Lab := fun a => match ω a with
  | some q => if pre p q = true then none else some q
  | none => none
theorem frzW_some {p q : Lab} {a : Addr} (e : frzW ω p a = some q) : ω a = some q ∧ pre p q = false := by
  unfold frzW at e
  split at e
  · rename_i r hr
    split at e
    · cases e
    · cases e; rename_i hn; exact ⟨hr, Bool.eq_false_iff.mpr hn⟩
  · cases e
theorem frzW_of {p q : Lab} {a : Addr} (e : ω a = some q) (n : pre p q = false) : frzW ω p a = some q := by
  unfold frzW; rw [e]; simp [n]
theorem frzG_same (h : Hd F G ω tmp s σ H) (p : Lab) : Same G (frzG G H ω p) := fun a o e => by
  unfold frzG
  split
  · rename_i q hq
    have := (h.wg a q hq).1
    rw [e] at this; cases this
  · exact e
theorem frzG_in {p q : Lab} {a : Addr} (e : ω a = some q) (n : pre p q = true) : frzG G H ω p a = H a := by
  unfold frzG; rw [e]; simp [n]
/-- everything but the slots and temporaries -/
theorem Hd.frz (h : Hd F G ω tmp s σ H) (p : Lab) (s' : State) (σ' : St) (tmp' : Tmp) (hl : σ'.length = s'.length)
    (hs : ∀ i t, s'[i]? = some (some t) → ∃ v, σ'[i]? = some (some v) ∧ Own (frzG G H ω p) H (frzW ω p) [0, i] t v) (ht : Tms (frzG G H ω p) H (frzW ω p) σ' tmp') (hp : ∀ k v, F.pv k = some v → σ'[k]? = some (some v)) : Hd F (frzG G H ω p) (frzW ω p) tmp' s' σ' H := by
  have sG := frzG_same h p
  refine ⟨h.g0.trans sG, fun a o e => ?_, fun a o e => ?_, h.fr, h.ex, fun a q e => ?_, hl, hs, ht, hp⟩
  · unfold frzG at e
    split at e
    · split at e
      · exact e
      · exact h.gH a o e
    · exact h.gH a o e
  · unfold frzG at e
    split at e
    · rename_i q hq
      split at e
      · exact .inr (h.wg a q hq).2.2
      · exact h.gn a o e
    · exact h.gn a o e
  · obtain ⟨e1, e2⟩ := frzW_some e
    obtain ⟨q1, q2, q3⟩ := h.wg a q e1
    refine ⟨?_, q2, q3⟩
    unfold frzG; rw [e1]; simp [e2, q1]
theorem Own.frzOther {p q : Lab} (sG : Same G (frzG G H ω p)) (hpq : ∀ x, pre p (q ++ x) = false) (h : Own G H ω q t v) : Own (frzG G H ω p) H (frzW ω p) q t v :=
  Own.move sG q q t v (fun a x e => ⟨rfl, frzW_of e (hpq x)⟩) h
theorem Own.frzRep {p : Lab} (sG : Same G (frzG G H ω p)) (h : Own G H ω p t v) : Rep (frzG G H ω p) t.er v :=
  Own.rep sG p t v (fun a x e o ho => by rw [frzG_in e (pre_app p x)]; exact ho) h
theorem Tms.frzOther {p : Lab} (sG : Same G (frzG G H ω p)) (tmp : Tmp) (hp : ∀ j x, j < tmp.length → pre p ([1, j] ++ x) = false) (h : Tms G H ω σ tmp) : Tms (frzG G H ω p) H (frzW ω p) σ tmp :=
  Tms.move sG tmp (fun j a x hj e => ⟨rfl, frzW_of e (hp j x hj)⟩) h
/-- the top temporary is frozen -/
theorem Holds.frzTop (h : Holds F ((v, .own t) :: tmp) s σ H) : Holds F ((v, .own (.f t.er)) :: tmp) s σ H := by
  obtain ⟨G, ω, h⟩ := h
  have sG := frzG_same h [1, tmp.length]
  refine ⟨_, _, h.frz [1, tmp.length] s σ _ h.len (fun i u e => ?_) ⟨Own.frzRep sG h.tm.1, Tms.frzOther sG tmp (fun j x hj => ?_) h.tm.2⟩ h.pn⟩
  · obtain ⟨v', e1, e2⟩ := h.sl i u e
    exact ⟨v', e1, Own.frzOther sG (fun x => by simp [pre]) e2⟩
  · have : tmp.length ≠ j := by omega
    simp [pre, this]
/-- a slot is frozen -/
theorem Holds.frzSlot (h : Holds F tmp s σ H) {i : Nat} (hi : s[i]? = some (some t)) : Holds F tmp (s.set i (some (.f t.er))) σ H := by
  obtain ⟨G, ω, h⟩ := h
  have sG := frzG_same h [0, i]
  refine ⟨_, _, h.frz [0, i] _ σ _ (by simp [h.len]) (fun j u e => ?_) (Tms.frzOther sG tmp (fun j x hj => by simp [pre]) h.tm) h.pn⟩
  rw [List.getElem?_set] at e
  split at e
  · rename_i hj
    subst hj
    split at e
    · cases e
      obtain ⟨v', e1, e2⟩ := h.sl i t hi
      exact ⟨v', e1, Own.frzRep sG e2⟩
    · cases e
  · rename_i hj
    obtain ⟨v', e1, e2⟩ := h.sl j u e
    exact ⟨v', e1, Own.frzOther sG (fun x => by simp [pre, hj]) e2⟩
end
end VL

namespace VL
open PySem L2
variable [EC]

/-! relabelling, storing -/
def rl (ω : Addr → Option Lab) (φ : Lab → Option Lab) : Addr → Option Lab := fun a => (ω a).bind φ
theorem rl_some {ω : Addr → Option Lab} {φ : Lab → Option Lab} {a : Addr} {q : Lab} (h : rl ω φ a = some q) : ∃ p, ω a = some p ∧ φ p = some q := by
  unfold rl at h
  cases e : ω a with
  | none => rw [e] at h; cases h
  | some p => rw [e] at h; exact ⟨p, rfl, h⟩
theorem rl_of {ω : Addr → Option Lab} {φ : Lab → Option Lab} {a : Addr} {p q : Lab} (h : ω a = some p) (h2 : φ p = some q) : rl ω φ a = some q := by
  unfold rl; rw [h]; exact h2
section
variable {F : Fc} {G H H' : Hp} {ω : Addr → Option Lab} {tmp : Tmp} {s : State} {σ : St} {v : V} {t : T} {d : D}
theorem Hd.rl (h : Hd F G ω tmp s σ H) (φ : Lab → Option Lab) (s' : State) (σ' : St) (tmp' : Tmp) (hl : σ'.length = s'.length)
    (hs : ∀ i t, s'[i]? = some (some t) → ∃ v, σ'[i]? = some (some v) ∧ Own G H (VL.rl ω φ) [0, i] t v) (ht : Tms G H (VL.rl ω φ) σ' tmp') (hp : ∀ k v, F.pv k = some v → σ'[k]? = some (some v)) : Hd F G (VL.rl ω φ) tmp' s' σ' H :=
  ⟨h.g0, h.gH, h.gn, h.fr, h.ex, fun a q e => by
    obtain ⟨p, e1, _⟩ := rl_some e
    exact h.wg a p e1, hl, hs, ht, hp⟩
theorem Own.rl {φ : Lab → Option Lab} {p q : Lab} (h : Own G H ω p t v) (e : ∀ x, φ (p ++ x) = some (q ++ x)) : Own G H (VL.rl ω φ) q t v :=
  Own.move (Same.refl G) p q t v (fun a x w => ⟨rfl, rl_of w (e x)⟩) h
theorem Tms.rl {φ : Lab → Option Lab} (tmp : Tmp) (e : ∀ j x, j < tmp.length → φ ([1, j] ++ x) = some ([1, j] ++ x)) (h : Tms G H ω σ tmp) : Tms G H (VL.rl ω φ) σ tmp :=
  Tms.move (Same.refl G) tmp (fun j a x hj w => ⟨rfl, rl_of w (e j x hj)⟩) h
/-- no temporary speaks of slot i -/
def noAli (i : Nat) : Tmp → Bool
  | [] => true
  | (_, .own _) :: r => noAli i r
  | (_, .ali j) :: r => (j != i) && noAli i r
theorem Tms.slots {σ' : St} : ∀ (tmp : Tmp), (∀ i, noAli i tmp = false → σ'[i]? = σ[i]?) → Tms G H ω σ tmp → Tms G H ω σ' tmp
  | [], _, _ => trivial
  | (v, .own t) :: r, m, ⟨a, b⟩ => ⟨a, Tms.slots r (fun i h => m i h) b⟩
  | (v, .ali j) :: r, m, ⟨a, b⟩ => ⟨(m j (by simp [noAli])).trans a, Tms.slots r (fun i h => m i (by simp [noAli, h])) b⟩
def phiSt (n i : Nat) : Lab → Option Lab
  | 1 :: j :: x => if j = n then some (0 :: i :: x) else some (1 :: j :: x)
  | 0 :: j :: x => if j = i then none else some (0 :: j :: x)
  | l => some l
/-- the top temporary goes into slot i -/
theorem Holds.store (h : Holds F ((v, .own t) :: tmp) s σ H) {i : Nat} (hi : i < s.length) (na : noAli i tmp = true) (hp : F.pv i = none) : Holds F tmp (s.set i (some t)) (σ.set i (some v)) H := by
  obtain ⟨G, ω, h⟩ := h
  refine ⟨G, _, h.rl (phiSt tmp.length i) _ _ _ (by simp [h.len]) (fun j u e => ?_) ?_ fun k u e => ?_⟩
  · rw [List.getElem?_set] at e
    by_cases hj : i = j
    · subst hj
      rw [if_pos rfl, if_pos hi] at e
      cases e
      refine ⟨v, by rw [List.getElem?_set_self (by rw [h.len]; exact hi)], Own.rl h.tm.1 fun x => by simp [phiSt]⟩
    · rw [if_neg hj] at e
      obtain ⟨v', e1, e2⟩ := h.sl j u e
      have hj' : ¬ j = i := fun z => hj z.symm
      exact ⟨v', by rw [List.getElem?_set_ne hj]; exact e1, Own.rl e2 fun x => by simp [phiSt, hj']⟩
  · refine Tms.slots tmp (fun j hj => ?_) (Tms.rl tmp (fun j x hj => ?_) h.tm.2)
    · have : i ≠ j := fun e => by subst e; rw [na] at hj; cases hj
      rw [List.getElem?_set_ne this]
    · have : ¬ j = tmp.length := by omega
      simp [phiSt, this]
  · have : i ≠ k := fun z => by subst z; rw [hp] at e; cases e
    rw [List.getElem?_set_ne this]
    exact h.pn k u e
/-- less is known -/
def Sub : State → State → Prop
  | [], [] => True
  | a :: r, b :: q => (b = none ∨ a = b) ∧ Sub r q
  | _, _ => False
theorem Sub.refl : ∀ s : State, Sub s s
  | [] => trivial
  | _ :: r => ⟨.inr rfl, Sub.refl r⟩
theorem Sub.len : ∀ {s q : State}, Sub s q → s.length = q.length
  | [], [], _ => rfl
  | _ :: r, _ :: q, h => by simp [Sub.len h.2]
theorem Sub.get : ∀ {s q : State} {i : Nat} {t : T}, Sub s q → q[i]? = some (some t) → s[i]? = some (some t)
  | [], [], _, _, _, e => by simp at e
  | a :: r, b :: q, 0, t, ⟨h, _⟩, e => by
    simp at e
    rcases h with h | h
    · rw [h] at e; cases e
    · simp [h, e]
  | a :: r, b :: q, i + 1, t, ⟨_, h⟩, e => by
    have := Sub.get (i := i) h (by simpa using e)
    simpa using this
theorem Holds.sub (h : Holds F tmp s σ H) {s' : State} (q : Sub s s') : Holds F tmp s' σ H :=
  let ⟨G, ω, h⟩ := h
  ⟨G, ω, { h with len := h.len.trans q.len, sl := fun i t e => h.sl i t (q.get e) }⟩
def phiRet (n : Nat) : Lab → Option Lab
  | 1 :: j :: x => if j = n then some (1 :: 0 :: x) else none
  | l => some l
/-- the top temporary alone -/
theorem Holds.alone (h : Holds F ((v, .own t) :: tmp) s σ H) : Holds F [(v, .own t)] s σ H := by
  obtain ⟨G, ω, h⟩ := h
  refine ⟨G, _, h.rl (phiRet tmp.length) s σ _ h.len (fun j u e => ?_) ⟨?_, trivial⟩ h.pn⟩
  · obtain ⟨v', e1, e2⟩ := h.sl j u e
    exact ⟨v', e1, Own.rl e2 fun x => by simp [phiRet]⟩
  · exact Own.rl h.tm.1 fun x => by simp [phiRet]
end

/-! the readings -/
def ErrP (F : Fc) (e : Ex) (od : Option Addr) (H' : Hp) : Prop :=
  ∃ G', Same F.G0 G' ∧ Same G' H' ∧ (∀ a o, G' a = some o → F.G0 a = some o ∨ F.H0 a = none ∨ (F.w0 a).isSome = true) ∧ (∀ a o, F.H0 a = some o → F.w0 a = none → H' a = some o) ∧
    (∀ a o, F.H0 a = some o → ∃ o', H' a = some o') ∧
    (match e.a with | none => od = none | some d => ∃ dx v, od = some dx ∧ F.H0 dx = none ∧ G' dx = some (.xd [("at", v)]) ∧ Rep G' d v)
def EOk {R : Type} (F : Fc) (m : Res R) : Prop := ∀ e, m = .err e → ∀ od H', ErrP F e od H' → F.E (.ref (F.ec e.k)) od H'
theorem EOk.of {R S : Type} {F : Fc} {m : Res R} {m' : Res S} (h : EOk F m) (q : ∀ e, m' = .err e → m = .err e) : EOk F m' := fun e he => h e (q e he)
abbrev Rs (R : Type) := TM → State → Res R → Prop
def RD {R : Type} (F : Fc) (tmp : Tmp) (s : State) (t : TE) (m : Res R) (K : Rs R) : Prop :=
  ∀ σ H Q, Holds F tmp s σ H → m ≠ .fail → EOk F m → (∀ tm s' v H', K tm s' m → Holds F ((v, tm) :: tmp) s' σ H' → Q v H') → t σ H Q
end VL

namespace VL
open PySem L2
variable [EC]

def pushes : List V → List TM → Tmp → Tmp
  | v :: vs, t :: ts, tmp => pushes vs ts ((v, t) :: tmp)
  | _, _, tmp => tmp
abbrev Rn (R : Type) := State → Res R → Prop
abbrev Rr (R : Type) := T → State → Res R → Prop
section
variable {R : Type} (F : Fc) (tmp : Tmp) (s : State) (m : Res R)
def RT (t : TT) (K : Bool → State → Res R → Prop) : Prop :=
  ∀ σ H Q, Holds F tmp s σ H → m ≠ .fail → EOk F m → (∀ b s' H', K b s' m → Holds F tmp s' σ H' → Q b H') → t σ H Q
def RA (t : TA) (K : List TM → State → Res R → Prop) : Prop :=
  ∀ σ H Q, Holds F tmp s σ H → m ≠ .fail → EOk F m → (∀ tms s' vs H', K tms s' m → vs.length = tms.length → Holds F (pushes vs tms tmp) s' σ H' → Q vs H') → t σ H Q
def RS (t : TS) (N : Rn R) (Rt : Rr R) : Prop :=
  ∀ σ H D, Holds F tmp s σ H → m ≠ .fail → EOk F m → (∀ s' σ' H', N s' m → Holds F tmp s' σ' H' → D.nx σ' H') → (∀ t s' v σ' H', Rt t s' m → Holds F [(v, .own t)] s' σ' H' → D.rt v H') → t D σ H
end
section
variable {R : Type} {F : Fc} {tmp : Tmp} {s : State} {m : Res R} {K : Rs R} {N : Rn R} {Rt : Rr R}

/-! names, constants -/
theorem rd_var {i : Nat} {d : D} (h : s[i]? = some (some (.f d))) (k : K (.own (.f d)) s m) : RD F tmp s (tVar i) m K := fun σ H Q hh _ _ q => by
  obtain ⟨G, ω, h1⟩ := hh
  obtain ⟨v, e, o⟩ := h1.sl i _ h
  exact ⟨v, e, q _ _ v H k ⟨G, ω, h1.pushF o⟩⟩
/-- a slot as it lies -/
theorem rd_ali {i : Nat} {t : T} (h : s[i]? = some (some t)) (k : K (.ali i) s m) : RD F tmp s (tVar i) m K := fun σ H Q hh _ _ q => by
  obtain ⟨G, ω, h1⟩ := hh
  obtain ⟨v, e, o⟩ := h1.sl i _ h
  exact ⟨v, e, q _ _ v H k ⟨G, ω, { h1 with tm := ⟨e, h1.tm⟩ }⟩⟩
/-- an owned slot, frozen from here on -/
theorem rd_frz {i : Nat} {t : T} (h : s[i]? = some (some t)) (k : K (.own (.f t.er)) (s.set i (some (.f t.er))) m) : RD F tmp s (tVar i) m K := fun σ H Q hh _ _ q => by
  have h2 := hh.frzSlot h
  obtain ⟨G, ω, h1⟩ := h2
  have hi : i < s.length := (List.getElem?_eq_some_iff.mp h).1
  obtain ⟨v, e, o⟩ := h1.sl i (.f t.er) (by rw [List.getElem?_set_self hi])
  exact ⟨v, e, q _ _ v H k ⟨G, ω, h1.pushF o⟩⟩
def phiMv (n i : Nat) : Lab → Option Lab
  | 0 :: j :: x => if j = i then some (1 :: n :: x) else some (0 :: j :: x)
  | 1 :: j :: x => if j = n then none else some (1 :: j :: x)
  | l => some l
/-- an owned slot, moved out -/
theorem rd_mv {i : Nat} {t : T} (h : s[i]? = some (some t)) (k : K (.own t) (s.set i none) m) : RD F tmp s (tVar i) m K := fun σ H Q hh _ _ q => by
  obtain ⟨G, ω, h1⟩ := hh
  obtain ⟨v, e, o⟩ := h1.sl i _ h
  refine ⟨v, e, q _ _ v H k ⟨G, _, h1.rl (phiMv tmp.length i) _ σ _ (by simp [h1.len]) (fun j u e2 => ?_) ⟨Own.rl o fun x => by simp [phiMv], Tms.rl tmp (fun j x hj => ?_) h1.tm⟩ h1.pn⟩⟩
  · rw [List.getElem?_set] at e2
    by_cases hj : i = j
    · subst hj
      rw [if_pos rfl] at e2
      split at e2 <;> cases e2
    · rw [if_neg hj] at e2
      obtain ⟨v', a, b⟩ := h1.sl j u e2
      have hj' : ¬ j = i := fun z => hj z.symm
      exact ⟨v', a, Own.rl b fun x => by simp [phiMv, hj']⟩
  · have : ¬ j = tmp.length := by omega
    simp [phiMv, this]
theorem holds_push {σ : St} {H : Hp} {d : D} {v : V} (h : Holds F tmp s σ H) (r : ∀ G, Rep G d v) : Holds F ((v, .own (.f d)) :: tmp) s σ H :=
  let ⟨G, ω, h1⟩ := h
  ⟨G, ω, h1.pushF (r G)⟩
theorem rd_int {i : Int} (k : K (.own (.f (.int i))) s m) : RD F tmp s (tC (.int i)) m K := fun σ H Q hh _ _ q => q _ _ _ H k (holds_push hh fun _ => rfl)
theorem rd_bl {b : Bool} (k : K (.own (.f (.bl b))) s m) : RD F tmp s (tC (.bl b)) m K := fun σ H Q hh _ _ q => q _ _ _ H k (holds_push hh fun _ => rfl)
theorem rd_non (k : K (.own (.f .non)) s m) : RD F tmp s (tC .non) m K := fun σ H Q hh _ _ q => q _ _ _ H k (holds_push hh fun _ => rfl)
theorem rd_str {x : Str} {l : List Nat} (e : x = mkS l) (k : K (.own (.f (.str l))) s m) : RD F tmp s (tC (.str x)) m K := fun σ H Q hh _ _ q => q _ _ _ H k (holds_push hh fun _ => congrArg V.str e)

/-! blocks -/
theorem rs_seq {t u : TS} (h : RS F tmp s m t (fun s1 m1 => RS F tmp s1 m1 u N Rt) Rt) : RS F tmp s m (tSeq t u) N Rt := fun σ H D hh nf eo nx rt =>
  h σ H { D with nx := u D } hh nf eo (fun s' σ' H' hn h1 => hn σ' H' D h1 nf eo nx rt) rt
theorem rs_next (k : N s m) : RS F tmp s m tNext N Rt := fun σ H D hh _ _ nx _ => nx s σ H k hh
theorem rs_set {te : TE} {i : Nat} (h : RD F tmp s te m (fun tm s1 m1 => ∃ t, tm = .own t ∧ i < s1.length ∧ N (s1.set i (some t)) m1)) (na : noAli i tmp = true) (hp : F.pv i = none) : RS F tmp s m (tAsg te (gName i)) N Rt := fun σ H D hh nf eo nx rt =>
  h σ H _ hh nf eo fun tm s' v H' ⟨t, e, hl, hn⟩ h1 => by
    subst e
    exact nx _ _ _ hn (h1.store hl na hp)
theorem rs_drop {te : TE} (h : RD F tmp s te m (fun _ s1 m1 => N s1 m1)) : RS F tmp s m (tDrop te) N Rt := fun σ H D hh nf eo nx rt =>
  h σ H _ hh nf eo fun tm s' v H' hn h1 => nx _ _ _ hn h1.pop
theorem rs_ret {te : TE} (h : RD F tmp s te m (fun tm s1 m1 => ∃ t, tm = .own t ∧ Rt t s1 m1)) : RS F tmp s m (tRet te) N Rt := fun σ H D hh nf eo nx rt =>
  h σ H _ hh nf eo fun tm s' v H' ⟨t, e, hn⟩ h1 => by
    subst e
    exact rt _ _ _ σ _ hn h1.alone
/-- an if; what follows is told twice -/
theorem rs_if {c : TT} {t u : TS} (h : RT F tmp s m c (fun b s1 m1 => ∃ ma mb, m1 = (if b = true then ma else mb) ∧ (b = true → RS F tmp s1 ma t N Rt) ∧ (b = false → RS F tmp s1 mb u N Rt))) : RS F tmp s m (tIfS c t u) N Rt := fun σ H D hh nf eo nx rt =>
  h σ H _ hh nf eo fun b s' H' ⟨ma, mb, e, ha, hb⟩ h1 => by
    cases b with
    | true => simp only [if_true] at e ⊢; subst e; exact ha rfl σ H' D h1 nf eo nx rt
    | false => simp only [Bool.false_eq_true, if_false] at e ⊢; subst e; exact hb rfl σ H' D h1 nf eo nx rt
/-! arguments -/
theorem ra_nil {K : List TM → State → Res R → Prop} (k : K [] s m) : RA F tmp s m tNil K := fun σ H Q hh _ _ q => q [] s [] H k rfl hh
theorem ra_cons {ta : TE} {tr : TA} {K : List TM → State → Res R → Prop} (h : RD F tmp s ta m (fun tm s1 m1 => ∀ v, RA F ((v, tm) :: tmp) s1 m1 tr (fun tms s2 m2 => K (tm :: tms) s2 m2))) : RA F tmp s m (tCons ta tr) K := fun σ H Q hh nf eo q =>
  h σ H _ hh nf eo fun tm s' v H' hk h1 => hk v σ H' _ h1 nf eo fun tms s2 vs H2 hk2 hl h2 => q (tm :: tms) s2 (v :: vs) H2 hk2 (by simp [hl]) h2
end
end VL

namespace VL
open PySem L2
variable [EC]

/-! calls -/
def wAfter (G : Hp) (w : Addr → Option Lab) (H : Hp) (G' : Hp) (H' : Hp) : Prop :=
  Same G G' ∧ Same G' H' ∧ (∀ a o, G' a = some o → G a = some o ∨ H a = none ∨ (w a).isSome = true) ∧ (∀ a o, H a = some o → w a = none → H' a = some o) ∧ (∀ a o, H a = some o → ∃ o', H' a = some o')
def PostOk (G : Hp) (w : Addr → Option Lab) (H : Hp) (r : T) (outs : List (Option T)) (v : V) (vs : List V) (H' : Hp) : Prop :=
  ∃ G' w', wAfter G w H G' H' ∧ (∀ a p, w' a = some p → G' a = none ∧ (∃ o, H' a = some o) ∧ (H a = none ∨ (w a).isSome = true)) ∧
    Own G' H' w' [2] r v ∧ ∀ k t, outs[k]? = some (some t) → ∃ u, vs[k]? = some u ∧ Own G' H' w' [0, k] t u
def ErrQ (G : Hp) (w : Addr → Option Lab) (H : Hp) (e : Ex) (od : Option Addr) (H' : Hp) : Prop :=
  ∃ G', wAfter G w H G' H' ∧ (match e.a with | none => od = none | some d => ∃ dx v, od = some dx ∧ H dx = none ∧ G' dx = some (.xd [("at", v)]) ∧ Rep G' d v)
def spOf {A R : Type} (ec : Nat → Addr) (ea : A → List T) (mir : A → Res R) (er : R → T) (eo : R → List (Option T)) : Sp := fun vs H Q E =>
  ∃ (a : A) (G : Hp) (w : Addr → Option Lab), Same G H ∧ (∀ x p, w x = some p → G x = none ∧ ∃ o, H x = some o) ∧ vs.length = (ea a).length ∧ (∀ k t, (ea a)[k]? = some t → ∃ u, vs[k]? = some u ∧ Own G H w [0, k] t u) ∧
    mir a ≠ .fail ∧ (∀ r v H', mir a = .ok r → PostOk G w H (er r) (eo r) v vs H' → Q v H') ∧ (∀ e od H', mir a = .err e → ErrQ G w H e od H' → E (.ref (ec e.k)) od H')

def treeAt (s : State) : TM → Option T
  | .own t => some t
  | .ali i => match s[i]? with | some x => x | none => none
def putOuts : State → List TM → List (Option T) → State
  | s, .ali i :: r, o :: q => putOuts (s.set i o) r q
  | s, .ali i :: r, [] => putOuts (s.set i none) r []
  | s, .own _ :: r, q => putOuts s r q.tail
  | s, [], _ => s
def aIdx (i : Nat) : List TM → Option Nat
  | [] => none
  | .ali j :: r => if j = i then some 0 else (aIdx i r).map (· + 1)
  | .own _ :: r => (aIdx i r).map (· + 1)
def aliNd : List TM → Bool
  | [] => true
  | .ali j :: r => (aIdx j r).isNone && aliNd r
  | .own _ :: r => aliNd r
theorem aIdx_get {i : Nat} : ∀ {tms : List TM} {k : Nat}, aIdx i tms = some k → tms[k]? = some (.ali i)
  | [], _, h => by simp [aIdx] at h
  | .ali j :: r, k, h => by
    unfold aIdx at h
    split at h
    · rename_i e; subst e; cases h; rfl
    · cases e : aIdx i r with
      | none => rw [e] at h; cases h
      | some k' => rw [e] at h; cases h; simpa using aIdx_get e
  | .own _ :: r, k, h => by
    unfold aIdx at h
    cases e : aIdx i r with
    | none => rw [e] at h; cases h
    | some k' => rw [e] at h; cases h; simpa using aIdx_get e
theorem aIdx_of {i : Nat} : ∀ {tms : List TM} {k : Nat}, aliNd tms = true → tms[k]? = some (.ali i) → aIdx i tms = some k
  | [], _, _, h => by simp at h
  | .ali j :: r, 0, nd, h => by simp at h; subst h; simp [aIdx]
  | .ali j :: r, k + 1, nd, h => by
    simp only [aliNd, Bool.and_eq_true] at nd
    have e := aIdx_of (k := k) nd.2 (by simpa using h)
    have : ¬ j = i := fun z => by subst z; rw [e] at nd; simp at nd
    simp [aIdx, this, e]
  | .own _ :: r, 0, nd, h => by simp at h
  | .own _ :: r, k + 1, nd, h => by
    have e := aIdx_of (tms := r) (k := k) (by simpa [aliNd] using nd) (by simpa using h)
    simp [aIdx, e]
theorem putOuts_len : ∀ (tms : List TM) (s : State) (q : List (Option T)), (putOuts s tms q).length = s.length
  | [], s, _ => by cases s <;> rfl
  | .ali i :: r, s, [] => by rw [putOuts, putOuts_len r]; simp
  | .ali i :: r, s, o :: q => by rw [putOuts, putOuts_len r]; simp
  | .own _ :: r, s, q => by rw [putOuts, putOuts_len r]
theorem putOuts_none : ∀ (tms : List TM) (s : State) (q : List (Option T)) (i : Nat), aIdx i tms = none → (putOuts s tms q)[i]? = s[i]?
  | [], s, _, i, _ => by cases s <;> rfl
  | .ali j :: r, s, q, i, h => by
    unfold aIdx at h
    split at h
    · cases h
    · rename_i hj
      have h' : aIdx i r = none := by simpa using h
      cases q with
      | nil => rw [putOuts, putOuts_none r _ _ i h', List.getElem?_set_ne hj]
      | cons o q => rw [putOuts, putOuts_none r _ _ i h', List.getElem?_set_ne hj]
  | .own _ :: r, s, q, i, h => by
    have h' : aIdx i r = none := by simpa [aIdx] using h
    rw [putOuts, putOuts_none r _ _ i h']
theorem putOuts_some : ∀ (tms : List TM) (s : State) (q : List (Option T)) (i k : Nat) (t : T), aliNd tms = true → aIdx i tms = some k → (putOuts s tms q)[i]? = some (some t) → q[k]? = some (some t)
  | [], s, _, i, k, t, _, h, _ => by simp [aIdx] at h
  | .ali j :: r, s, q, i, k, t, nd, h, e => by
    simp only [aliNd, Bool.and_eq_true] at nd
    unfold aIdx at h
    split at h
    · rename_i hj
      subst hj
      cases h
      have hn : aIdx j r = none := by simpa using nd.1
      cases q with
      | nil =>
        rw [putOuts, putOuts_none r _ _ j hn, List.getElem?_set] at e
        simp at e
      | cons o q =>
        rw [putOuts, putOuts_none r _ _ j hn, List.getElem?_set] at e
        simp at e
        simpa using e.2
    · cases e2 : aIdx i r with
      | none => rw [e2] at h; cases h
      | some k' =>
        rw [e2] at h; cases h
        cases q with
        | nil =>
          rw [putOuts] at e
          have := putOuts_some r _ _ i k' t nd.2 e2 e
          simp at this
        | cons o q =>
          rw [putOuts] at e
          have := putOuts_some r _ _ i k' t nd.2 e2 e
          simpa using this
  | .own _ :: r, s, q, i, k, t, nd, h, e => by
    unfold aIdx at h
    cases e2 : aIdx i r with
    | none => rw [e2] at h; cases h
    | some k' =>
      rw [e2] at h; cases h
      rw [putOuts] at e
      have := putOuts_some r _ _ i k' t (by simpa [aliNd] using nd) e2 e
      cases q with
      | nil => simp at this
      | cons o q => simpa using this
/-- the arguments among the temporaries -/
theorem Tms.args {G H : Hp} {ω : Addr → Option Lab} {σ : St} : ∀ (vs : List V) (tms : List TM) (tmp : Tmp), vs.length = tms.length → Tms G H ω σ (pushes vs tms tmp) →
    Tms G H ω σ tmp ∧ ∀ k tm, tms[k]? = some tm → ∃ v, vs[k]? = some v ∧ TmOk G H ω σ [1, tmp.length + k] tm v
  | [], [], tmp, _, h => ⟨h, fun k tm e => by simp at e⟩
  | v :: vs, tm :: tms, tmp, hl, h => by
    obtain ⟨⟨a, b⟩, c⟩ := Tms.args vs tms ((v, tm) :: tmp) (by simpa using hl) h
    refine ⟨b, fun k u e => ?_⟩
    cases k with
    | zero => simp at e; subst e; exact ⟨v, rfl, a⟩
    | succ k =>
      obtain ⟨w, e1, e2⟩ := c k u (by simpa using e)
      refine ⟨w, by simpa using e1, ?_⟩
      rw [List.length_cons] at e2
      rwa [show tmp.length + (k + 1) = tmp.length + 1 + k by omega]
  | [], _ :: _, _, hl, _ => by simp at hl
  | _ :: _, [], _, hl, _ => by simp at hl
def psi (n : Nat) (tms : List TM) : Lab → Option Lab
  | 1 :: j :: x => if n ≤ j ∧ j < n + tms.length then some (0 :: (j - n) :: x) else none
  | 0 :: i :: x => (aIdx i tms).map fun k => 0 :: k :: x
  | _ => none
def chi (n : Nat) (tms : List TM) : Lab → Option Lab
  | 2 :: x => some (1 :: n :: x)
  | 0 :: k :: x => match tms[k]? with | some (.ali i) => some (0 :: i :: x) | _ => none
  | _ => none
def wBack (ω ω' : Addr → Option Lab) (n : Nat) (tms : List TM) : Addr → Option Lab := fun a => match ω a with
  | some lab => if (psi n tms lab).isSome = true then (ω' a).bind (chi n tms) else some lab
  | none => (ω' a).bind (chi n tms)
theorem wAfter.errP {F : Fc} {G H H' G' : Hp} {ω wc : Addr → Option Lab} {tmp : Tmp} {s : State} {σ : St} (h : Hd F G ω tmp s σ H) (hc : ∀ a, (wc a).isSome = true → (ω a).isSome = true) (p : wAfter G wc H G' H') :
    Same F.G0 G' ∧ Same G' H' ∧ (∀ a o, G' a = some o → F.G0 a = some o ∨ F.H0 a = none ∨ (F.w0 a).isSome = true) ∧ (∀ a o, F.H0 a = some o → F.w0 a = none → H' a = some o) ∧ (∀ a o, F.H0 a = some o → ∃ o', H' a = some o') := by
  obtain ⟨p1, p2, p3, p4, p5⟩ := p
  refine ⟨h.g0.trans p1, p2, fun a o e => ?_, fun a o e w => ?_, fun a o e => ?_⟩
  · rcases p3 a o e with q | q | q
    · exact h.gn a o q
    · exact .inr (.inl (h.new q))
    · obtain ⟨lab, hl⟩ := Option.isSome_iff_exists.mp (hc a q)
      exact .inr (h.wg a lab hl).2.2
  · refine p4 a o (h.fr a o e w) ?_
    cases q : wc a with
    | none => rfl
    | some lab =>
      obtain ⟨lab', hl⟩ := Option.isSome_iff_exists.mp (hc a (by rw [q]; rfl))
      rcases (h.wg a lab' hl).2.2 with z | z
      · rw [e] at z; cases z
      · rw [w] at z; cases z
  · obtain ⟨o', e'⟩ := h.ex a o e
    exact p5 a o' e'
theorem call_core {A R R' : Type} {ec : Nat → Addr} {ea : A → List T} {mir : A → Res R'} {er : R' → T} {eo : R' → List (Option T)} {F : Fc} {tmp : Tmp} {s1 : State} {m : Res R} {K : Rs R} {E : XK} {σ : St} {Q : VK} {tms : List TM} {vs : List V} {H1 : Hp} (hec : F.ec = ec) (hE : (∀ c d H', F.E c d H' → E c d H') ∨ ∀ a e, mir a ≠ .err e)
    (nf : m ≠ .fail) (eo' : EOk F m) (q : ∀ tm s' v H', K tm s' m → Holds F ((v, tm) :: tmp) s' σ H' → Q v H') (hx : ∃ (a : A) (k : R' → Res R), m = rb (mir a) k ∧ tms.map (treeAt s1) = (ea a).map some ∧ aliNd tms = true ∧ ∀ r, K (.own (er r)) (putOuts s1 tms (eo r)) (k r))
    (hl : vs.length = tms.length) (h1 : Holds F (pushes vs tms tmp) s1 σ H1) : spOf ec ea mir er eo (vs ++ []) H1 Q E := by
  obtain ⟨a, k, em, ht, nd, hk⟩ := hx
  obtain ⟨G, ω, h1⟩ := h1
  obtain ⟨ht0, hargs⟩ := Tms.args vs tms tmp hl h1.tm
  have hlen : tms.length = (ea a).length := by simpa using congrArg List.length ht
  rw [List.append_nil]
  have hwc : ∀ x, ((rl ω (psi tmp.length tms)) x).isSome = true → (ω x).isSome = true := fun x hx => by
    obtain ⟨lab, e⟩ := Option.isSome_iff_exists.mp hx
    obtain ⟨p, e1, _⟩ := rl_some e
    rw [e1]; rfl
  have cases := rb_cases (by rw [← em]; exact nf : rb (mir a) k ≠ .fail)
  refine ⟨a, G, rl ω (psi tmp.length tms), h1.gH, fun x p e => ?_, by rw [hl, hlen], fun j u e => ?_, fun z => ?_, fun r v H' er' po => ?_, fun e od H' ee po => ?_⟩
  · obtain ⟨p', e1, _⟩ := rl_some e
    exact ⟨(h1.wg x p' e1).1, (h1.wg x p' e1).2.1⟩
  · have hj : j < tms.length := by rw [hlen]; exact (List.getElem?_eq_some_iff.mp e).1
    have e2 : (tms.map (treeAt s1))[j]? = some (some u) := by rw [ht, List.getElem?_map, e]; rfl
    rw [List.getElem?_map] at e2
    cases e3 : tms[j]? with
    | none => rw [e3] at e2; cases e2
    | some tm =>
      rw [e3] at e2
      have e4 : treeAt s1 tm = some u := by simpa using e2
      obtain ⟨v, ev, ok⟩ := hargs j tm e3
      refine ⟨v, ev, ?_⟩
      cases tm with
      | own t' =>
        cases e4
        exact Own.rl ok fun x => by simp [psi, hj]
      | ali i =>
        have es : s1[i]? = some (some u) := by
          cases e5 : s1[i]? with
          | none => simp [treeAt, e5] at e4
          | some x => simp [treeAt, e5] at e4; rw [e4]
        obtain ⟨v', a1, a2⟩ := h1.sl i u es
        have : v' = v := by
          have ok' : σ[i]? = some (some v) := ok
          rw [ok'] at a1; cases a1; rfl
        subst this
        exact Own.rl a2 fun x => by simp [psi, aIdx_of nd e3]
  · rcases cases with ⟨b, e1, _⟩ | ⟨b, e1, _⟩ <;> (rw [z] at e1; cases e1)
  · have em' : m = k r := by rw [em, er']; rfl
    obtain ⟨G', ω', pa, pw, pr, pouts⟩ := po
    obtain ⟨f1, f2, f3, f4, f5⟩ := wAfter.errP h1 hwc pa
    obtain ⟨p1, p2, p3, p4, p5⟩ := pa
    -- who was lent
    have lent : ∀ x lab, ω x = some lab → (psi tmp.length tms lab).isSome = false → ω' x = none := fun x lab e1 e2 => by
      cases e3 : ω' x with
      | none => rfl
      | some l2 =>
        rcases (pw x l2 e3).2.2 with z | z
        · obtain ⟨o, ho⟩ := (h1.wg x lab e1).2.1
          rw [ho] at z; cases z
        · unfold rl at z
          rw [e1] at z
          rw [show ((some lab).bind (psi tmp.length tms)) = psi tmp.length tms lab from rfl, e2] at z
          cases z
    have back : ∀ x l2 l3, ω' x = some l2 → chi tmp.length tms l2 = some l3 → wBack ω ω' tmp.length tms x = some l3 := fun x l2 l3 e1 e2 => by
      unfold wBack
      cases e3 : ω x with
      | none => simp only [e1]; exact e2
      | some lab =>
        cases e4 : (psi tmp.length tms lab).isSome with
        | true => simp only [e4, if_true, e1]; exact e2
        | false =>
          rw [lent x lab e3 e4] at e1
          cases e1
    have kept : ∀ x lab, ω x = some lab → psi tmp.length tms lab = none → H' x = H1 x ∧ wBack ω ω' tmp.length tms x = some lab := fun x lab e1 e2 => by
      obtain ⟨o, ho⟩ := (h1.wg x lab e1).2.1
      refine ⟨?_, ?_⟩
      · rw [ho]
        exact p4 x o ho (by unfold rl; rw [e1]; exact e2)
      · unfold wBack
        rw [e1]
        simp [e2]
    refine q (.own (er r)) (putOuts s1 tms (eo r)) v H' (by rw [em']; exact hk r) ⟨G', wBack ω ω' tmp.length tms, f1, f2, f3, f4, f5, fun x p e => ?_, ?_, fun i u e => ?_, ⟨?_, ?_⟩, h1.pn⟩
    · unfold wBack at e
      have fromNew : (ω' x).bind (chi tmp.length tms) = some p → G' x = none ∧ (∃ o, H' x = some o) ∧ (F.H0 x = none ∨ (F.w0 x).isSome = true) := fun e => by
        cases e3 : ω' x with
        | none => rw [e3] at e; cases e
        | some l2 =>
          obtain ⟨w1, w2, w3⟩ := pw x l2 e3
          refine ⟨w1, w2, ?_⟩
          rcases w3 with z | z
          · exact .inl (h1.new z)
          · obtain ⟨lab, hl2⟩ := Option.isSome_iff_exists.mp (hwc x z)
            exact (h1.wg x lab hl2).2.2
      split at e
      · rename_i lab e1
        split at e
        · exact fromNew e
        · rename_i hn
          have hn' : psi tmp.length tms lab = none := by simpa using hn
          cases e
          obtain ⟨g1, ⟨o, ho⟩, g3⟩ := h1.wg x _ e1
          refine ⟨?_, ⟨o, ?_⟩, g3⟩
          · cases e5 : G' x with
            | none => rfl
            | some o2 =>
              rcases p3 x o2 e5 with z | z | z
              · rw [g1] at z; cases z
              · rw [ho] at z; cases z
              · unfold rl at z
                rw [e1] at z
                rw [show ((some p).bind (psi tmp.length tms)) = psi tmp.length tms p from rfl, hn'] at z
                cases z
          · rw [(kept x p e1 hn').1]; exact ho
      · exact fromNew e
    · rw [putOuts_len]; exact h1.len
    · cases e1 : aIdx i tms with
      | none =>
        rw [putOuts_none tms s1 _ i e1] at e
        obtain ⟨v', a1, a2⟩ := h1.sl i u e
        exact ⟨v', a1, Own.move p1 _ _ u v' (fun x y w => kept x _ w (by simp [psi, e1])) a2⟩
      | some j =>
        obtain ⟨w, w1, w2⟩ := pouts j u (putOuts_some tms s1 _ i j u nd e1 e)
        obtain ⟨v', a1, a2⟩ := hargs j _ (aIdx_get e1)
        rw [w1] at a1
        cases a1
        exact ⟨w, a2, Own.move (Same.refl _) _ _ u w (fun x y z => ⟨rfl, back x _ _ z (by simp [chi, aIdx_get e1])⟩) w2⟩
    · exact Own.move (Same.refl _) _ _ _ v (fun x y z => ⟨rfl, back x _ _ z (by simp [chi])⟩) pr
    · exact Tms.move p1 tmp (fun j x y hj w => kept x _ w (by
        have : ¬ (tmp.length ≤ j ∧ j < tmp.length + tms.length) := by omega
        simp [psi, this])) ht0
  · have em' : m = .err e := by rw [em, ee]; rfl
    obtain ⟨G', pa, pe⟩ := po
    obtain ⟨f1, f2, f3, f4, f5⟩ := wAfter.errP h1 hwc pa
    rcases hE with hE | hE
    case inr => exact absurd ee (hE a e)
    refine hE _ _ _ ?_
    rw [← hec]
    refine eo' e em' od H' ⟨G', f1, f2, f3, f4, f5, ?_⟩
    cases e6 : e.a with
    | none => rw [e6] at pe; exact pe
    | some d =>
      rw [e6] at pe
      obtain ⟨dx, v, b1, b2, b3, b4⟩ := pe
      exact ⟨dx, v, b1, h1.new b2, b3, b4⟩
theorem rd_callG {A R R' : Type} {ec : Nat → Addr} {ea : A → List T} {mir : A → Res R'} {er : R' → T} {eo : R' → List (Option T)} {F : Fc} {tmp : Tmp} {s : State} {m : Res R} {K : Rs R} {t : TA} {E : XK} (hec : F.ec = ec) (hE : (∀ c d H', F.E c d H' → E c d H') ∨ ∀ a e, mir a ≠ .err e)
    (h : RA F tmp s m t (fun tms s1 m1 => ∃ (a : A) (k : R' → Res R), m1 = rb (mir a) k ∧ tms.map (treeAt s1) = (ea a).map some ∧ aliNd tms = true ∧ ∀ r, K (.own (er r)) (putOuts s1 tms (eo r)) (k r))) :
    RD F tmp s (tCall (spOf ec ea mir er eo) [] E t) m K := fun σ H Q hh nf eo' q => h σ H _ hh nf eo' fun tms s1 vs H1 hx hl h1 => call_core hec hE nf eo' q hx hl h1
theorem rd_call {A R R' : Type} {ec : Nat → Addr} {ea : A → List T} {mir : A → Res R'} {er : R' → T} {eo : R' → List (Option T)} {F : Fc} {tmp : Tmp} {s : State} {m : Res R} {K : Rs R} {t : TA} {E : XK} (hec : F.ec = ec) (hE : F.E = E)
    (h : RA F tmp s m t (fun tms s1 m1 => ∃ (a : A) (k : R' → Res R), m1 = rb (mir a) k ∧ tms.map (treeAt s1) = (ea a).map some ∧ aliNd tms = true ∧ ∀ r, K (.own (er r)) (putOuts s1 tms (eo r)) (k r))) :
    RD F tmp s (tCall (spOf ec ea mir er eo) [] E t) m K := rd_callG hec (.inl fun _ _ _ z => hE ▸ z) h
end VL

namespace VL
open PySem L2
variable [EC]

/-! an owned object is written -/
section
variable {F : Fc} {G H H' : Hp} {ω : Addr → Option Lab} {tmp : Tmp} {s : State} {σ : St} {v : V} {t : T} {d : D} {a : Addr} {p : Lab}
theorem Hd.wr (h : Hd F G ω tmp s σ H) (hw : ω a = some p) (o' : HO) {s' : State} {tmp' : Tmp} (hl : s'.length = s.length)
    (hs : ∀ i t, s'[i]? = some (some t) → ∃ v, σ[i]? = some (some v) ∧ Own G (upd H a o') ω [0, i] t v) (ht : Tms G (upd H a o') ω σ tmp') : Hd F G ω tmp' s' σ (upd H a o') := by
  obtain ⟨g1, ⟨o, ho⟩, g3⟩ := h.wg a p hw
  refine ⟨h.g0, fun b u e => ?_, h.gn, fun b u e w => ?_, fun b u e => ?_, fun b q e => ?_, h.len.trans hl.symm, hs, ht, h.pn⟩
  · have : b ≠ a := fun z => by subst z; rw [g1] at e; cases e
    rw [upd_ne this]; exact h.gH b u e
  · have : b ≠ a := fun z => by
      subst z
      rcases g3 with z | z
      · rw [e] at z; cases z
      · rw [w] at z; cases z
    rw [upd_ne this]; exact h.fr b u e w
  · by_cases hb : b = a
    · subst hb; exact ⟨o', upd_same⟩
    · rw [upd_ne hb]; exact h.ex b u e
  · obtain ⟨q1, ⟨u, q2⟩, q3⟩ := h.wg b q e
    refine ⟨q1, ?_, q3⟩
    by_cases hb : b = a
    · subst hb; exact ⟨o', upd_same⟩
    · exact ⟨u, by rw [upd_ne hb]; exact q2⟩
theorem Own.wrO {o' : HO} {q : Lab} (hw : ω a = some p) (n : pre q p = false) (h : Own G H ω q t v) : Own G (upd H a o') ω q t v :=
  Own.move (Same.refl _) q q t v (fun b x e => ⟨upd_ne (fun z => by subst z; rw [hw] at e; cases e; rw [pre_app] at n; cases n), e⟩) h
theorem Tms.wrO {o' : HO} (hw : ω a = some p) (tmp : Tmp) (n : ∀ j, j < tmp.length → pre [1, j] p = false) (h : Tms G H ω σ tmp) : Tms G (upd H a o') ω σ tmp :=
  Tms.move (Same.refl _) tmp (fun j b x hj e => ⟨upd_ne (fun z => by subst z; rw [hw] at e; cases e; have := n j hj; rw [pre_app] at this; cases this), e⟩) h
/-- an owned list in slot i -/
theorem Holds.wrSlot (h : Holds F tmp s σ H) {i : Nat} {ds : List D} (hi : s[i]? = some (some (.l ds))) :
    ∃ a vs, σ[i]? = some (some (.ref a)) ∧ H a = some (.lst vs) ∧ vs.length = ds.length ∧ ds.length ≤ sizeLine ∧ (∀ (k : Nat) (d : D), ds[k]? = some d → ∃ v, vs[k]? = some v ∧ ∀ {x : V}, x = v → Holds F ((x, .own (.f d)) :: tmp) s σ H) ∧
      ∀ (ds' : List D) (vs' : List V), ds'.length ≤ sizeLine → (∀ G, Same F.G0 G → Same G H → Reps G ds vs → (∀ x r, tmp = x :: r → ∀ d, x.2 = .own (.f d) → Rep G d x.1) → Reps G ds' vs') → Holds F tmp (s.set i (some (.l ds'))) σ (upd H a (.lst vs')) := by
  obtain ⟨G, ω, h⟩ := h
  obtain ⟨v, e1, a, vs, rfl, ha, hw, z, r⟩ := h.sl i _ hi
  refine ⟨a, vs, e1, ha, r.length.symm, z, fun k d e => ?_, fun ds' vs' hz hr => ⟨G, ω, h.wr hw (.lst vs') (by simp) (fun j u e => ?_) (Tms.wrO hw tmp (fun j hj => by simp [pre]) h.tm)⟩⟩
  · obtain ⟨v, e2, e3⟩ := r.get e
    exact ⟨v, e2, fun {x} ex => ⟨G, ω, h.pushF (by rw [ex]; exact e3)⟩⟩
  · have hil : i < s.length := (List.getElem?_eq_some_iff.mp hi).1
    by_cases hj : i = j
    · subst hj
      rw [List.getElem?_set_self hil] at e
      cases e
      refine ⟨_, e1, a, vs', rfl, upd_same, hw, hz, hr G h.g0 h.gH r fun x r2 et d ed => ?_⟩
      have ht := h.tm
      rw [et] at ht
      have ht1 := ht.1
      rw [ed] at ht1
      exact ht1
    · rw [List.getElem?_set_ne hj] at e
      obtain ⟨v', b1, b2⟩ := h.sl j u e
      exact ⟨v', b1, Own.wrO hw (by simp [pre]; exact fun z => hj z.symm) b2⟩
/-- an owned list among the temporaries, with what comes to it on top -/
theorem Holds.wrTmp {D' : Addr} {acc : List D} {y : V} (h : Holds F ((y, .own (.f d)) :: (.ref D', .own (.l acc)) :: tmp) s σ H) (hz : acc.length < sizeLine) :
    ∃ vs, H D' = some (.lst vs) ∧ vs.length = acc.length ∧ Holds F ((.ref D', .own (.l (acc ++ [d]))) :: tmp) s σ (upd H D' (.lst (vs ++ [y]))) := by
  obtain ⟨G, ω, h⟩ := h
  obtain ⟨hy, ⟨a, vs, e, ha, hw, z, r⟩, ht⟩ := h.tm
  cases e
  refine ⟨vs, ha, r.length.symm, G, ω, h.wr hw _ rfl (fun j u e => ?_) ⟨⟨D', vs ++ [y], rfl, upd_same, hw, by simp; omega, r.append ⟨y, [], rfl, hy, rfl⟩⟩, Tms.wrO hw tmp (fun j hj => ?_) ht⟩⟩
  · obtain ⟨v', b1, b2⟩ := h.sl j u e
    exact ⟨v', b1, Own.wrO hw (by simp [pre]) b2⟩
  · have : ¬ j = tmp.length := by omega
    simp [pre, this]
end

/-! loops -/
inductive Fl (Z R : Type) where
  | nx (z : Z) | rt (r : R)
def forL {Z R : Type} : List D → Z → (Z → D → Res (Fl Z R)) → Res (Fl Z R)
  | [], z, _ => .ok (.nx z)
  | d :: r, z, f => rb (f z d) fun o => match o with | .nx z' => forL r z' f | .rt x => .ok (.rt x)
def forN {Z : Type} : List D → Z → (Z → D → Res Z) → Res Z
  | [], z, _ => .ok z
  | d :: r, z, f => rb (f z d) fun z' => forN r z' f
def whileF {Z R : Type} : Nat → Z → (Z → Res Bool) → (Z → Res (Fl Z R)) → Res (Fl Z R)
  | 0, _, _, _ => .fail
  | n + 1, z, c, b => rb (c z) fun t => if t = true then rb (b z) fun o => match o with | .nx z' => whileF n z' c b | .rt x => .ok (.rt x) else .ok (.nx z)
def whileN {Z : Type} : Nat → Z → (Z → Res Bool) → (Z → Res Z) → Res Z
  | 0, _, _, _ => .fail
  | n + 1, z, c, b => rb (c z) fun t => if t = true then rb (b z) fun z' => whileN n z' c b else .ok z
/-- a comprehension that changes what stands outside -/
def fmS {Z : Type} : List D → Z → (Z → D → Res (Option D × Z)) → Res (List D × Z)
  | [], z, _ => .ok ([], z)
  | d :: r, z, f => rb (f z d) fun o => rb (fmS r o.2 f) fun q => .ok (match o.1 with | some y => y :: q.1 | none => q.1, q.2)
def fmR : List D → (D → Res (Option D)) → Res (List D)
  | [], _ => .ok []
  | d :: r, f => rb (f d) fun o => rb (fmR r f) fun q => .ok (match o with | some y => y :: q | none => q)
structure ItOk (F : Fc) (tmp0 tmp : Tmp) (P : State → Prop) (pb : State → State) (J : It) (ds : List D) : Prop where
  bk : ∀ (pre : Tmp) s σ H, P s → Holds F (pre ++ tmp) s σ H → Holds F (pre ++ tmp0) (pb s) σ H
  sz : ds.length ≤ sizeLine
  go : ∀ s σ H i, P s → Holds F tmp s σ H → i < ds.length → J.go i H
  stop : ∀ s σ H, P s → Holds F tmp s σ H → J.stop ds.length H
  yld : ∀ (pre : Tmp) s σ H (i : Nat) (d : D) x H', P s → Holds F (pre ++ tmp) s σ H → ds[i]? = some d → J.yld i H x H' → Holds F ((x, .own (.f d)) :: (pre ++ tmp)) s σ H'
section
variable {R : Type} (F : Fc) (tmp : Tmp) (s : State) (m : Res R)
def RI (wi : TI) (K : Tmp → (State → Prop) → (State → State) → List D → State → Res R → Prop) : Prop :=
  ∀ σ H Q, Holds F tmp s σ H → m ≠ .fail → EOk F m → (∀ ex P pb ds s' J H', K ex P pb ds s' m → ItOk F tmp (ex ++ tmp) P pb J ds → Holds F (ex ++ tmp) s' σ H' → Q J H') → wi σ H Q
def RG (is : List Nat) (g : TG) (d : D) (K : State → Res R → Prop) : Prop :=
  ∀ σ H v Q, Holds F ((v, .own (.f d)) :: tmp) s σ H → m ≠ .fail → EOk F m → (∀ s' σ' H', K s' m → Holds F tmp s' σ' H' → (∀ j, j ∉ is → σ'[j]? = σ[j]?) → σ'.length = σ.length → Q σ' H') → g v σ H Q
end
section
variable {R : Type} {F : Fc} {tmp : Tmp} {s : State} {m : Res R} {K : Rs R} {N : Rn R} {Rt : Rr R}
theorem rs_for {Z R' : Type} {wi : TI} {g : TG} {tb : TS} (is : List Nat) (h : RI F tmp s m wi (fun ex P pb ds s1 m1 => ∃ (S : Z → State) (z0 : Z) (f : Z → D → Res (Fl Z R')) (k : Fl Z R' → Res R),
      m1 = rb (forL ds z0 f) k ∧ Sub s1 (S z0) ∧ (∀ z, P (S z)) ∧
      (∀ z d, RG F (ex ++ tmp) (S z) (f z d) is g d (fun s2 m2 => RS F (ex ++ tmp) s2 m2 tb (fun s3 m3 => ∃ z', m3 = .ok (.nx z') ∧ Sub s3 (S z')) (fun t s3 m3 => ∃ r, m3 = .ok (.rt r) ∧ Rt t s3 (k (.rt r))))) ∧
      ∀ z, N (pb (S z)) (k (.nx z)))) : RS F tmp s m (tFor wi g tb) N Rt := fun σ H De hh nf eo nx rt => by
  refine h σ H _ hh nf eo fun ex P pb ds s1 J H1 ⟨S, z0, f, k, em, sb, hP, body, fin⟩ it h1 => ?_
  refine ⟨fun i n σ' H' => ∃ z, i + n = ds.length ∧ Holds F (ex ++ tmp) (S z) σ' H' ∧ rb (forL (ds.drop i) z f) k = m, ⟨ds.length, z0, by simp, h1.sub sb, by rw [List.drop_zero]; exact em.symm⟩, ?_⟩
  rintro i n σ' H' ⟨z, hin, hz, ez⟩
  cases n with
  | zero =>
    have hi : i = ds.length := by omega
    subst hi
    refine .inl ⟨it.stop _ _ _ (hP z) hz, ?_⟩
    rw [List.drop_length] at ez
    refine nx (pb (S z)) σ' H' ?_ (it.bk [] _ _ _ (hP z) hz)
    rw [← ez]
    exact fin z
  | succ n =>
    have hi : i < ds.length := by omega
    refine .inr ⟨it.go _ _ _ i (hP z) hz hi, _, fun σ2 H2 w => ⟨n, by omega, w⟩, fun x H2 y => ?_⟩
    have hd : ds[i]? = some ds[i] := List.getElem?_eq_getElem hi
    have h2 := it.yld [] _ _ _ i _ x H2 (hP z) hz hd y
    rw [List.drop_eq_getElem_cons hi] at ez
    have ez' : rb (rb (f z ds[i]) fun o => match o with | .nx z' => forL (ds.drop (i + 1)) z' f | .rt x => .ok (.rt x)) k = m := ez
    have nf' : f z ds[i] ≠ .fail := fun q => nf (by rw [← ez', q]; rfl)
    have eo' : EOk F (f z ds[i]) := eo.of fun e he => by rw [← ez', he]; rfl
    refine body z ds[i] σ' H2 x _ h2 nf' eo' fun s3 σ3 H3 hb h3 _ _ => ?_
    refine hb σ3 H3 _ h3 nf' eo' (fun s4 σ4 H4 ⟨z', e1, q⟩ h4 => ?_) fun t s4 v σ4 H4 ⟨r, e1, q⟩ h4 => ?_
    · refine ⟨z', by omega, h4.sub q, ?_⟩
      rw [← ez', e1]; rfl
    · refine rt t s4 v σ4 H4 ?_ h4
      have : m = k (.rt r) := by rw [← ez', e1]; rfl
      rw [this]; exact q
theorem rs_forN {Z : Type} {wi : TI} {g : TG} {tb : TS} (is : List Nat) (h : RI F tmp s m wi (fun ex P pb ds s1 m1 => ∃ (S : Z → State) (z0 : Z) (f : Z → D → Res Z) (k : Z → Res R),
      m1 = rb (forN ds z0 f) k ∧ Sub s1 (S z0) ∧ (∀ z, P (S z)) ∧
      (∀ z d, RG F (ex ++ tmp) (S z) (f z d) is g d (fun s2 m2 => RS F (ex ++ tmp) s2 m2 tb (fun s3 m3 => ∃ z', m3 = .ok z' ∧ Sub s3 (S z')) (fun t s3 m3 => False))) ∧
      ∀ z, N (pb (S z)) (k z))) : RS F tmp s m (tFor wi g tb) N Rt := fun σ H De hh nf eo nx rt => by
  refine h σ H _ hh nf eo fun ex P pb ds s1 J H1 ⟨S, z0, f, k, em, sb, hP, body, fin⟩ it h1 => ?_
  refine ⟨fun i n σ' H' => ∃ z, i + n = ds.length ∧ Holds F (ex ++ tmp) (S z) σ' H' ∧ rb (forN (ds.drop i) z f) k = m, ⟨ds.length, z0, by simp, h1.sub sb, by rw [List.drop_zero]; exact em.symm⟩, ?_⟩
  rintro i n σ' H' ⟨z, hin, hz, ez⟩
  cases n with
  | zero =>
    have hi : i = ds.length := by omega
    subst hi
    refine .inl ⟨it.stop _ _ _ (hP z) hz, ?_⟩
    rw [List.drop_length] at ez
    refine nx (pb (S z)) σ' H' ?_ (it.bk [] _ _ _ (hP z) hz)
    rw [← ez]
    exact fin z
  | succ n =>
    have hi : i < ds.length := by omega
    refine .inr ⟨it.go _ _ _ i (hP z) hz hi, _, fun σ2 H2 w => ⟨n, by omega, w⟩, fun x H2 y => ?_⟩
    have hd : ds[i]? = some ds[i] := List.getElem?_eq_getElem hi
    have h2 := it.yld [] _ _ _ i _ x H2 (hP z) hz hd y
    rw [List.drop_eq_getElem_cons hi] at ez
    have ez' : rb (rb (f z ds[i]) fun z' => forN (ds.drop (i + 1)) z' f) k = m := ez
    have nf' : f z ds[i] ≠ .fail := fun q => nf (by rw [← ez', q]; rfl)
    have eo' : EOk F (f z ds[i]) := eo.of fun e he => by rw [← ez', he]; rfl
    refine body z ds[i] σ' H2 x _ h2 nf' eo' fun s3 σ3 H3 hb h3 _ _ => ?_
    refine hb σ3 H3 _ h3 nf' eo' (fun s4 σ4 H4 ⟨z', e1, q⟩ h4 => ?_) fun t s4 v σ4 H4 q h4 => q.elim
    refine ⟨z', by omega, h4.sub q, ?_⟩
    rw [← ez', e1]; rfl
theorem rs_while {Z R' : Type} {c : TT} {tb : TS} (n : Nat) (S : Z → State) (z0 : Z) (fc : Z → Res Bool) (f : Z → Res (Fl Z R')) (k : Fl Z R' → Res R) (em : m = rb (whileF n z0 fc f) k) (sb : Sub s (S z0))
    (hc : ∀ z, RT F tmp (S z) (fc z) c (fun b s2 m2 => m2 = .ok b ∧ Sub s2 (S z)))
    (hb : ∀ z, RS F tmp (S z) (f z) tb (fun s3 m3 => ∃ z', m3 = .ok (.nx z') ∧ Sub s3 (S z')) (fun t s3 m3 => ∃ r, m3 = .ok (.rt r) ∧ Rt t s3 (k (.rt r))))
    (fin : ∀ z, N (S z) (k (.nx z))) : RS F tmp s m (tWhile c tb) N Rt := fun σ H De hh nf eo nx rt => by
  refine ⟨fun n σ' H' => ∃ z, Holds F tmp (S z) σ' H' ∧ rb (whileF n z fc f) k = m, ⟨n, z0, hh.sub sb, em.symm⟩, ?_⟩
  rintro n σ' H' ⟨z, hz, ez⟩
  cases n with
  | zero => exact absurd ez.symm nf
  | succ n =>
    have ez' : rb (rb (fc z) fun t => if t = true then rb (f z) fun o => match o with | .nx z' => whileF n z' fc f | .rt x => .ok (.rt x) else .ok (.nx z)) k = m := ez
    have nf' : fc z ≠ .fail := fun q => nf (by rw [← ez', q]; rfl)
    refine hc z σ' H' _ hz nf' (eo.of fun e he => by rw [← ez', he]; rfl) fun b s2 H2 ⟨eb, sb2⟩ h2 => ?_
    rw [eb] at ez'
    cases b with
    | false =>
      simp only [Bool.false_eq_true, if_false]
      refine nx (S z) σ' H2 ?_ (h2.sub sb2)
      rw [← ez']; exact fin z
    | true =>
      simp only [if_true]
      have ez2 : rb (rb (f z) fun o => match o with | .nx z' => whileF n z' fc f | .rt x => .ok (.rt x)) k = m := ez'
      have nf2 : f z ≠ .fail := fun q => nf (by rw [← ez2, q]; rfl)
      refine ⟨_, fun σ3 H3 w => ⟨n, Nat.lt_succ_self n, w⟩, ?_⟩
      refine hb z σ' H2 _ (h2.sub sb2) nf2 (eo.of fun e he => by rw [← ez2, he]; rfl) (fun s4 σ4 H4 ⟨z', e1, q⟩ h4 => ?_) fun t s4 v σ4 H4 ⟨r, e1, q⟩ h4 => ?_
      · refine ⟨z', h4.sub q, ?_⟩
        rw [← ez2, e1]; rfl
      · refine rt t s4 v σ4 H4 ?_ h4
        have : m = k (.rt r) := by rw [← ez2, e1]; rfl
        rw [this]; exact q
theorem rs_whileN {Z : Type} {c : TT} {tb : TS} (n : Nat) (S : Z → State) (z0 : Z) (fc : Z → Res Bool) (f : Z → Res Z) (k : Z → Res R) (em : m = rb (whileN n z0 fc f) k) (sb : Sub s (S z0))
    (hc : ∀ z, RT F tmp (S z) (fc z) c (fun b s2 m2 => m2 = .ok b ∧ Sub s2 (S z)))
    (hb : ∀ z, RS F tmp (S z) (f z) tb (fun s3 m3 => ∃ z', m3 = .ok z' ∧ Sub s3 (S z')) (fun t s3 m3 => False))
    (fin : ∀ z, N (S z) (k z)) : RS F tmp s m (tWhile c tb) N Rt := fun σ H De hh nf eo nx rt => by
  refine ⟨fun n σ' H' => ∃ z, Holds F tmp (S z) σ' H' ∧ rb (whileN n z fc f) k = m, ⟨n, z0, hh.sub sb, em.symm⟩, ?_⟩
  rintro n σ' H' ⟨z, hz, ez⟩
  cases n with
  | zero => exact absurd ez.symm nf
  | succ n =>
    have ez' : rb (rb (fc z) fun t => if t = true then rb (f z) fun z' => whileN n z' fc f else .ok z) k = m := ez
    have nf' : fc z ≠ .fail := fun q => nf (by rw [← ez', q]; rfl)
    refine hc z σ' H' _ hz nf' (eo.of fun e he => by rw [← ez', he]; rfl) fun b s2 H2 ⟨eb, sb2⟩ h2 => ?_
    rw [eb] at ez'
    cases b with
    | false =>
      simp only [Bool.false_eq_true, if_false]
      refine nx (S z) σ' H2 ?_ (h2.sub sb2)
      rw [← ez']; exact fin z
    | true =>
      simp only [if_true]
      have ez2 : rb (rb (f z) fun z' => whileN n z' fc f) k = m := ez'
      have nf2 : f z ≠ .fail := fun q => nf (by rw [← ez2, q]; rfl)
      refine ⟨_, fun σ3 H3 w => ⟨n, Nat.lt_succ_self n, w⟩, ?_⟩
      refine hb z σ' H2 _ (h2.sub sb2) nf2 (eo.of fun e he => by rw [← ez2, he]; rfl) (fun s4 σ4 H4 ⟨z', e1, q⟩ h4 => ?_) fun t s4 v σ4 H4 q h4 => q.elim
      refine ⟨z', h4.sub q, ?_⟩
      rw [← ez2, e1]; rfl
/-! targets -/
theorem rg_name {i : Nat} {d : D} {K : State → Res R → Prop} (hi : i < s.length) (na : noAli i tmp = true) (hp : F.pv i = none) (k : K (s.set i (some (.f d))) m) : RG F tmp s m [i] (gName i) d K := fun σ H v Q hh nf eo q =>
  q _ _ H k (hh.store hi na hp) (fun j hj => by rw [List.getElem?_set_ne (fun z => hj (by simp [z]))]) (by simp)
end
end VL

namespace VL
open PySem L2
variable [EC]

/-! comprehensions -/
section
variable {F : Fc} {G H H' : Hp} {ω : Addr → Option Lab} {tmp : Tmp} {s : State} {σ : St} {v : V} {t : T} {d : D}
theorem Tms.tail {G H : Hp} {ω : Addr → Option Lab} {σ : St} {tmp : Tmp} : ∀ (ex : Tmp), Tms G H ω σ (ex ++ tmp) → Tms G H ω σ tmp
  | [], h => h
  | _ :: r, h => Tms.tail r h.2
def noAlis (vs : List Nat) (tmp : Tmp) : Bool := vs.all fun i => noAli i tmp
theorem Holds.wiped {vs : List Nat} (h : Holds F tmp s σ H) (hs : ∀ i ∈ vs, s[i]? = some none) (na : noAlis vs tmp = true) (hp : ∀ i ∈ vs, F.pv i = none) : Holds F tmp s (wipe σ vs) H := by
  obtain ⟨G, ω, h⟩ := h
  refine ⟨G, ω, { h with len := by rw [wipe_length]; exact h.len, sl := fun i t e => ?_, tm := ?_, pn := fun k v e => ?_ }⟩
  · have : i ∉ vs := fun z => by rw [hs i z] at e; cases e
    obtain ⟨v, a, b⟩ := h.sl i t e
    exact ⟨v, by rw [wipe_out this]; exact a, b⟩
  · refine Tms.slots tmp (fun i hi => wipe_out fun z => ?_) h.tm
    have := List.all_eq_true.mp na i z
    rw [hi] at this; cases this
  · have : k ∉ vs := fun z => by rw [hp k z] at e; cases e
    rw [wipe_out this]; exact h.pn k v e
theorem Tms.unwipe {G H : Hp} {ω : Addr → Option Lab} {σ : St} {vs : List Nat} : ∀ (tmp : Tmp), Tms G H ω (wipe σ vs) tmp → Tms G H ω σ tmp
  | [], _ => trivial
  | (v, .own t) :: r, ⟨a, b⟩ => ⟨a, Tms.unwipe r b⟩
  | (v, .ali j) :: r, ⟨a, b⟩ => ⟨(wipe_some a).1, Tms.unwipe r b⟩
theorem Holds.unwipe {vs : List Nat} (h : Holds F tmp s (wipe σ vs) H) : Holds F tmp s σ H := by
  obtain ⟨G, ω, h⟩ := h
  refine ⟨G, ω, { h with len := by rw [← h.len, wipe_length], sl := fun i t e => ?_, tm := Tms.unwipe tmp h.tm, pn := fun k v e => (wipe_some (h.pn k v e)).1 }⟩
  obtain ⟨v, a, b⟩ := h.sl i t e
  exact ⟨v, (wipe_some a).1, b⟩
theorem wipe_congr {σ σ2 : St} {vs is : List Nat} (h : ∀ j, j ∉ is → σ2[j]? = (wipe σ vs)[j]?) (hi : ∀ i ∈ is, i ∈ vs) (hl : σ2.length = (wipe σ vs).length) : wipe σ2 vs = wipe σ vs := by
  refine List.ext_getElem? fun j => ?_
  by_cases hj : j ∈ vs
  · have e1 : (wipe σ2 vs).length = (wipe σ vs).length := by rw [wipe_length, hl]
    by_cases hl2 : j < (wipe σ2 vs).length
    · have n1 : ∀ (τ : St), j < (wipe τ vs).length → (wipe τ vs)[j]? = some none := fun τ hτ => by
        cases e : (wipe τ vs)[j]? with
        | none => rw [List.getElem?_eq_none_iff] at e; omega
        | some x =>
          cases x with
          | none => rfl
          | some v => exact absurd hj (wipe_some e).2
      rw [n1 σ2 hl2, n1 σ (by omega)]
    · rw [List.getElem?_eq_none (by omega), List.getElem?_eq_none (by omega)]
  · rw [wipe_out hj, h j fun z => hj (hi j z), wipe_out hj]
end
section
variable {R : Type} {F : Fc} {tmp : Tmp} {s : State} {m : Res R} {K : Rs R} {N : Rn R} {Rt : Rr R}
/-- an owned value, frozen at once -/
theorem rd_fz {te : TE} (h : RD F tmp s te m (fun tm s1 m1 => ∃ t, tm = .own t ∧ K (.own (.f t.er)) s1 m1)) : RD F tmp s te m K := fun σ H Q hh nf eo q =>
  h σ H Q hh nf eo fun tm s' v H' ⟨t, e, hk⟩ h1 => by
    subst e
    exact q _ _ v H' hk h1.frzTop
def lcBody {Z : Type} (F : Fc) (tmp : Tmp) (S : Z → State) (is : List Nat) (g : TG) (tt : TT) (te : TE) (m : Res (Option D × Z)) (z : Z) (d : D) : Prop :=
  RG F tmp (S z) m is g d (fun s2 m2 => RT F tmp s2 m2 tt (fun b s3 m3 => ∃ ma mb, m3 = (if b = true then ma else mb) ∧
    (b = true → RD F tmp s3 te ma (fun tm s4 m4 => ∃ y z', tm = .own (.f y) ∧ m4 = .ok (some y, z') ∧ Sub s4 (S z'))) ∧ (b = false → ∃ z', mb = .ok (none, z') ∧ Sub s3 (S z'))))
def accD (acc : List D) : Option D → List D
  | some y => acc ++ [y]
  | none => acc
theorem fmS_step {Z S : Type} {d : D} {r acc : List D} {z z' : Z} {f : Z → D → Res (Option D × Z)} {k : List D × Z → Res S} (o : Option D) (e : f z d = .ok (o, z')) :
    rb (rb (fmS (d :: r) z f) fun q => .ok (acc ++ q.1, q.2)) k = rb (rb (fmS r z' f) fun q => .ok (accD acc o ++ q.1, q.2)) k := by
  show rb (rb (rb (f z d) _) _) k = _
  rw [e]
  show rb (rb (rb (fmS r z' f) _) _) k = _
  cases fmS r z' f with
  | ok q => cases o <;> simp [rb, accD]
  | err e => rfl
  | fail => rfl
theorem rd_lc {Z : Type} {wi : TI} {g : TG} {tt : TT} {te : TE} {vs : List Nat} (is : List Nat) (hv : ∀ i ∈ is, i ∈ vs) (hp : ∀ i ∈ vs, F.pv i = none)
    (h : RI F tmp s m wi (fun ex P pb ds s1 m1 => ∃ (S : Z → State) (z0 : Z) (f : Z → D → Res (Option D × Z)) (k : List D × Z → Res R), m1 = rb (fmS ds z0 f) k ∧ Sub s1 (S z0) ∧ (∀ z, P (S z)) ∧ (∀ z, ∀ i ∈ vs, (S z)[i]? = some none) ∧ noAlis vs (ex ++ tmp) = true ∧
      (∀ z d lv acc, lcBody F ((lv, .own (.l acc)) :: (ex ++ tmp)) S is g tt te (f z d) z d) ∧ ∀ p : List D × Z, K (.own (.l p.1)) (pb (S p.2)) (k p))) : RD F tmp s (tLc wi g tt te vs) m K := fun σ H Q hh nf eo q => by
  refine h σ H _ hh nf eo fun ex P pb ds s1 J H1 ⟨S, z0, f, k, em, sb, hP, hS, na, body, fin⟩ it h1 => ?_
  intro D' hD
  have h2 := (h1.sub sb).wiped (hS z0) na hp
  have h3 : Holds F ((.ref D', .own (.l [])) :: (ex ++ tmp)) (S z0) (wipe σ vs) (upd H1 D' (.lst [])) := by
    obtain ⟨G, ω, h2⟩ := h2
    exact h2.newL hD (Nat.zero_le _) rfl
  refine ⟨fun i n H' => ∃ z acc, i + n = ds.length ∧ acc.length ≤ i ∧ Holds F ((.ref D', .own (.l acc)) :: (ex ++ tmp)) (S z) (wipe σ vs) H' ∧ rb (rb (fmS (ds.drop i) z f) fun q => .ok (acc ++ q.1, q.2)) k = m, ⟨ds.length, z0, [], by simp, Nat.le_refl _, h3, ?_⟩, ?_⟩
  · rw [List.drop_zero, em]
    cases fmS ds z0 f with
    | ok q => simp [rb]
    | err e => rfl
    | fail => rfl
  rintro i n H' ⟨z, acc, hin, ha, hz, ez⟩
  cases n with
  | zero =>
    have hi : i = ds.length := by omega
    subst hi
    refine .inl ⟨it.stop _ _ _ (hP z) hz.pop, ?_⟩
    rw [List.drop_length] at ez
    refine q (.own (.l acc)) (pb (S z)) (.ref D') H' ?_ (it.bk [(.ref D', .own (.l acc))] _ _ _ (hP z) hz).unwipe
    have ez' : rb (.ok (acc ++ [], z)) k = m := ez
    rw [List.append_nil] at ez'
    rw [← ez']
    exact fin (acc, z)
  | succ n =>
    have hi : i < ds.length := by omega
    refine .inr ⟨it.go _ _ _ i (hP z) hz.pop hi, _, fun H2 w => ⟨n, by omega, w⟩, fun x H2 y => ?_⟩
    have hd : ds[i]? = some ds[i] := List.getElem?_eq_getElem hi
    have h4 := it.yld [(.ref D', .own (.l acc))] _ _ _ i _ x H2 (hP z) hz hd y
    rw [List.drop_eq_getElem_cons hi] at ez
    have nf' : f z ds[i] ≠ .fail := fun q => nf (by
      rw [← ez]
      show rb (rb (rb (f z ds[i]) _) _) k = _
      rw [q]; rfl)
    have eo' : EOk F (f z ds[i]) := eo.of fun e he => by
      rw [← ez]
      show rb (rb (rb (f z ds[i]) _) _) k = _
      rw [he]; rfl
    refine body z ds[i] (.ref D') acc _ H2 x _ h4 nf' eo' fun s3 σ3 H3 hb h5 hj hl => ?_
    refine ⟨wipe_congr hj hv hl, ?_⟩
    have hw := wipe_congr hj hv hl
    have back : ∀ {z' : Z} {s4 : State} {acc' : List D} {H4 : Hp}, Sub s4 (S z') → Holds F ((.ref D', .own (.l acc')) :: (ex ++ tmp)) s4 σ3 H4 → Holds F ((.ref D', .own (.l acc')) :: (ex ++ tmp)) (S z') (wipe σ vs) H4 := fun {z' s4 acc' H4} sb4 h => by
      have := (h.sub sb4).wiped (hS z') (by
        unfold noAlis at na ⊢
        rw [List.all_eq_true] at na ⊢
        exact fun i hi => na i hi) hp
      rw [hw] at this
      exact this
    refine hb σ3 H3 _ h5 nf' eo' fun b s4 H4 ⟨ma, mb, eb, hT, hF⟩ h6 => ?_
    cases b with
    | false =>
      simp only [Bool.false_eq_true, if_false] at eb ⊢
      obtain ⟨z', e1, sb1⟩ := hF rfl
      refine ⟨z', acc, by omega, by omega, back sb1 h6, ?_⟩
      rw [← ez, fmS_step none (eb.trans e1)]; rfl
    | true =>
      simp only [if_true] at eb ⊢
      subst eb
      refine hT rfl σ3 H4 _ h6 nf' eo' fun tm s5 w H5 ⟨y, z', e0, e1, sb1⟩ h7 => ?_
      subst e0
      have hlt : acc.length < sizeLine := by
        have := it.sz
        omega
      obtain ⟨ws, w1, w2, w3⟩ := h7.wrTmp hlt
      refine ⟨ws, w1, by rw [w2]; exact hlt, z', acc ++ [y], by omega, by simp; omega, back sb1 w3, ?_⟩
      rw [← ez, fmS_step (some y) e1]; rfl
/-- one that changes nothing outside -/
theorem fmR_fmS {f : D → Res (Option D)} : ∀ (ds : List D), fmS ds () (fun _ d => rb (f d) fun o => .ok (o, ())) = rb (fmR ds f) fun q => .ok (q, ())
  | [] => rfl
  | d :: r => by
    show rb (rb (f d) _) _ = rb (rb (f d) _) _
    cases f d with
    | ok o =>
      show rb (fmS r () _) _ = rb (rb (fmR r f) _) _
      rw [fmR_fmS r]
      cases fmR r f with
      | ok q => cases o <;> rfl
      | err e => rfl
      | fail => rfl
    | err e => rfl
    | fail => rfl
theorem rt_true {tt : TT} {K : Bool → State → Res R → Prop} (e : tt = fun _ H Q => Q true H) (k : K true s m) : RT F tmp s m tt K := fun σ H Q hh _ _ q => by subst e; exact q true s H k hh

/-! a def -/
def st0 (n : Nat) (ts : List T) : State := ts.map some ++ List.replicate (n - ts.length) none
def outOk : Nat → List (Option T) → State → List Nat → Prop
  | _, [], _, _ => True
  | k, none :: r, s, p => outOk (k + 1) r s p
  | k, some u :: r, s, p => s[k]? = some (some u) ∧ k ∈ p ∧ outOk (k + 1) r s p
theorem outOk_get : ∀ {outs : List (Option T)} {k : Nat} {s : State} {p : List Nat}, outOk k outs s p → ∀ (j : Nat) (u : T), outs[j]? = some (some u) → s[k + j]? = some (some u) ∧ k + j ∈ p
  | [], _, _, _, _, j, u, e => by simp at e
  | none :: r, k, s, p, h, 0, u, e => by simp at e
  | none :: r, k, s, p, h, j + 1, u, e => by
    have := outOk_get (k := k + 1) (outs := r) h j u (by simpa using e)
    rwa [show k + (j + 1) = k + 1 + j by omega]
  | some x :: r, k, s, p, h, 0, u, e => by simp at e; subst e; exact ⟨h.1, h.2.1⟩
  | some x :: r, k, s, p, h, j + 1, u, e => by
    have := outOk_get (k := k + 1) (outs := r) h.2.2 j u (by simpa using e)
    rwa [show k + (j + 1) = k + 1 + j by omega]
def rEnd {R : Type} (er : R → T) (eo : R → List (Option T)) (pins : List Nat) : Rr R := fun t s' m' => ∃ r, m' = .ok r ∧ t = er r ∧ outOk 0 (eo r) s' pins
theorem fn_body {A : Type} {ec : Nat → Addr} {ea : A → List T} {mir : A → Res R} {er : R → T} {eo : R → List (Option T)} {K : PySem.W.Frag} {N : List Str} {vs : List V} {H : Hp} {Q : VK} {E : XK} {t : TS} (pins : List Nat) (hn : ∀ a, (ea a).length ≤ N.length) (hpin : ∀ a, ∀ k ∈ pins, k < (ea a).length)
    (h : spOf ec ea mir er eo vs H Q E)
    (rd : ∀ (F : Fc) (a : A), F.ec = ec → F.E = E → F.K = K → (∀ k, k ∉ pins → F.pv k = none) → RS F [] (st0 N.length (ea a)) (mir a) t (fun s' m' => rEnd er eo pins (.f .non) s' m') (rEnd er eo pins)) :
    t { nx := fun _ H' => Q .non H', rt := Q } (L2.start N vs) H := by
  obtain ⟨a, G, w, g1, g2, hl, ha, nf, hq, he⟩ := h
  let F : Fc := ⟨K, G, H, w, E, ec, fun k => if k ∈ pins then vs[k]? else none⟩
  have hnn := hn a
  have h0 : Holds F [] (st0 N.length (ea a)) (L2.start N vs) H := by
    refine ⟨G, w, ⟨Same.refl _, g1, fun a o e => .inl e, fun a o e _ => e, fun a o e => ⟨o, e⟩, fun x p e => ⟨(g2 x p e).1, (g2 x p e).2, .inr (by show (w x).isSome = true; rw [e]; rfl)⟩, ?_, fun i u e => ?_, trivial, fun k v e => ?_⟩⟩
    · simp [L2.start, st0, hl]
    · unfold st0 at e
      by_cases hi : i < (ea a).length
      · rw [List.getElem?_append_left (by simpa using hi), List.getElem?_map] at e
        cases e2 : (ea a)[i]? with
        | none => rw [e2] at e; cases e
        | some y =>
          rw [e2] at e
          cases e
          obtain ⟨u', e3, e4⟩ := ha i _ e2
          refine ⟨u', ?_, e4⟩
          unfold L2.start
          rw [List.getElem?_append_left (by simp [hl, hi]), List.getElem?_map, e3]; rfl
      · rw [List.getElem?_append_right (by simp; omega), List.getElem?_replicate] at e
        split at e <;> cases e
    · have e' : (if k ∈ pins then vs[k]? else none) = some v := e
      split at e'
      · unfold L2.start
        rw [List.getElem?_append_left (by simp; exact (List.getElem?_eq_some_iff.mp e').1), List.getElem?_map, e']; rfl
      · cases e'
  have fin : ∀ t s' v σ' H', rEnd er eo pins t s' (mir a) → Holds F [(v, .own t)] s' σ' H' → Q v H' := fun t s' v σ' H' ⟨r, e1, e2, e3⟩ h1 => by
    subst e2
    obtain ⟨G', ω, h1⟩ := h1
    refine hq r v H' e1 ⟨G', rl ω (fun l => match l with | 1 :: 0 :: x => some (2 :: x) | l => some l), ⟨h1.g0, h1.gH, h1.gn, h1.fr, h1.ex⟩, fun x p e => ?_, ?_, fun k u e => ?_⟩
    · obtain ⟨p', e4, _⟩ := rl_some e
      exact h1.wg x p' e4
    · exact Own.rl h1.tm.1 fun x => by simp
    · obtain ⟨e4, e5⟩ := outOk_get e3 k u e
      rw [Nat.zero_add] at e4 e5
      obtain ⟨y, e6, e7⟩ := h1.sl k u e4
      have hk : k < vs.length := by rw [hl]; exact hpin a k e5
      have hp : F.pv k = some vs[k] := by
        show (if k ∈ pins then vs[k]? else none) = _
        rw [if_pos e5, List.getElem?_eq_getElem hk]
      have := h1.pn k _ hp
      rw [e6] at this
      cases this
      exact ⟨_, List.getElem?_eq_getElem hk, Own.rl e7 fun x => by simp⟩
  exact rd F a rfl rfl rfl (fun k hk => by show (if k ∈ pins then vs[k]? else none) = none; rw [if_neg hk]) _ _ _ h0 nf (fun e ee od H' ⟨G', a1, a2, a3, a4, a5, a6⟩ => he e od H' ee ⟨G', ⟨a1, a2, a3, a4, a5⟩, a6⟩) (fun s' σ' H' hk h1 => fin (.f .non) s' .non σ' H' hk (holds_push (d := .non) (v := .non) h1 fun _ => rfl)) fin
end
end VL

namespace VL
open PySem L2
variable [EC]

/-! what stands at a temporary -/
def RepC (G H : Hp) : D → V → Prop
  | .lst l, v => ∃ a vs, v = .ref a ∧ Rd H a (.lst vs) ∧ l.length ≤ sizeLine ∧ Reps G l vs
  | .tup l, v => ∃ a vs, v = .ref a ∧ H a = some (.tup vs) ∧ l.length ≤ sizeLine ∧ Reps G l vs
  | .dct false l, v => ∃ a kvs, v = .ref a ∧ Rd H a (.dK kvs) ∧ RepK G l kvs
  | .dct true l, v => ∃ a ep xs, v = .ref a ∧ H a = some (exN EC.wd a ep xs) ∧ NDg a xs ∧ RepX G l xs
  | d, v => Rep G d v
def valT (s : State) (tm : TM) : Option D := (treeAt s tm).map T.er
def valS (s : State) (tm : TM) : Option D := match treeAt s tm with
  | some (.f d) => some d
  | some (.l ds) => some (.lst ds)
  | some (.dc k l) => some (.dct k l)
  | _ => none
section
variable {F : Fc} {G H H' : Hp} {ω : Addr → Option Lab} {tmp : Tmp} {s : State} {σ : St} {v : V} {t : T} {d : D}
theorem Rep.toC (sm : Same G H) : ∀ {d : D} {v : V}, Rep G d v → RepC G H d v
  | .exc _ _, _, h => h
  | .fd _ _ _, _, h => h
  | .fz _, _, h => h
  | .non, _, h => h
  | .bl _, _, h => h
  | .int _, _, h => h
  | .str _, _, h => h
  | .opq _, _, h => h
  | .lst _, _, ⟨a, vs, e, r, z, q⟩ => ⟨a, vs, e, Same.rd sm r, z, q⟩
  | .tup _, _, ⟨a, vs, e, r, z, q⟩ => ⟨a, vs, e, sm _ _ r, z, q⟩
  | .dct false _, _, ⟨a, kvs, e, r, q⟩ => ⟨a, kvs, e, Same.rd sm r, q⟩
  | .dct true _, _, ⟨a, ep, xs, e, r, q⟩ => ⟨a, ep, xs, e, sm _ _ r, q⟩
theorem RepC.toR (sm : Same G H) : ∀ {d : D} {v : V}, RepC G H d v → Rep H d v
  | .exc _ _, _, h => Rep.mono sm _ _ h
  | .fd _ _ _, _, h => Rep.mono sm _ _ h
  | .fz _, _, h => Rep.mono sm _ _ h
  | .non, _, h => h
  | .bl _, _, h => h
  | .int _, _, h => h
  | .str _, _, h => h
  | .opq _, _, h => h
  | .lst l, _, ⟨a, vs, e, r, z, q⟩ => ⟨a, vs, e, r, z, Reps.mono sm _ _ q⟩
  | .tup l, _, ⟨a, vs, e, r, z, q⟩ => ⟨a, vs, e, r, z, Reps.mono sm _ _ q⟩
  | .dct false l, _, ⟨a, kvs, e, r, q⟩ => ⟨a, kvs, e, r, RepK.mono sm _ _ q⟩
  | .dct true l, _, ⟨a, ep, xs, e, r, g, q⟩ => ⟨a, ep, xs, e, r, g, RepX.mono sm _ _ q⟩
theorem Hd.tree (h : Hd F G ω tmp s σ H) {p : Lab} {tm : TM} (ok : TmOk G H ω σ p tm v) (e : treeAt s tm = some t) : ∃ q, Own G H ω q t v := by
  cases tm with
  | own t' => cases e; exact ⟨p, ok⟩
  | ali i =>
    have ok' : σ[i]? = some (some v) := ok
    cases e5 : s[i]? with
    | none => simp [treeAt, e5] at e
    | some x =>
      simp [treeAt, e5] at e
      subst e
      obtain ⟨v', a, b⟩ := h.sl i t e5
      rw [ok'] at a
      cases a
      exact ⟨_, b⟩
theorem Hd.repT (h : Hd F G ω tmp s σ H) {p : Lab} {tm : TM} (ok : TmOk G H ω σ p tm v) (e : valT s tm = some d) : Rep H d v := by
  unfold valT at e
  cases e2 : treeAt s tm with
  | none => rw [e2] at e; cases e
  | some t =>
    rw [e2] at e
    cases e
    obtain ⟨q, o⟩ := h.tree ok e2
    exact Own.rep h.gH q t v (fun a x _ o ho => ho) o
theorem Hd.repC (h : Hd F G ω tmp s σ H) {p : Lab} {tm : TM} (ok : TmOk G H ω σ p tm v) (e : valS s tm = some d) : RepC G H d v := by
  unfold valS at e
  cases e2 : treeAt s tm with
  | none => rw [e2] at e; cases e
  | some t =>
    rw [e2] at e
    obtain ⟨q, o⟩ := h.tree ok e2
    cases t with
    | f d' => cases e; exact Rep.toC h.gH o
    | l ds => cases e; obtain ⟨a, vs, e, r, w, z, q⟩ := o; exact ⟨a, vs, e, .inl r, z, q⟩
    | dc k l =>
      cases e
      cases k with
      | false => obtain ⟨a, kvs, e, w, r, q⟩ := o; exact ⟨a, kvs, e, .inl r, q⟩
      | true => obtain ⟨a, ep, xs, e, w, r⟩ := o; exact ⟨a, ep, xs, e, r⟩
    | ll ts => cases e
    | tt ts => cases e
    | dl ks ts => cases e
    | nx _ _ _ => cases e
    | no _ _ _ => cases e
    | ob _ _ _ => cases e
    | hole w => cases e
end
theorem holds_bl {F : Fc} {tmp : Tmp} {s : State} {σ : St} {H : Hp} {b : Bool} (h : Holds F tmp s σ H) : Holds F ((.bl b, .own (.f (.bl b))) :: tmp) s σ H := holds_push (d := .bl b) (v := .bl b) h fun _ => rfl
def Op2C (r : R2) (op : D → D → Option D) : Prop := ∀ G H x y a b c Q, Same G H → RepC G H a x → RepC G H b y → op a b = some c → (∀ v, Rep G c v → Q v H) → r x y H Q
def Op2L (r : R2) (op : D → D → Option (List D)) : Prop := ∀ G H x y a b c Q, Same G H → RepC G H a x → RepC G H b y → op a b = some c → c.length ≤ sizeLine ∧ ((∀ p vs, H p = none → Reps G c vs → Q (.ref p) (upd H p (.lst vs))) → r x y H Q)
def Op2B (r : R2) (op : D → D → Option Bool) : Prop := ∀ H x y a b c Q, Rep H a x → Rep H b y → op a b = some c → Q (.bl c) H → r x y H Q
def Op1C (r : V → Hp → VK → Prop) (op : D → Option D) : Prop := ∀ G H x a c Q, Same G H → RepC G H a x → op a = some c → (∀ v, Rep G c v → Q v H) → r x H Q
def Op1L (r : V → Hp → VK → Prop) (op : D → Option (List D)) : Prop := ∀ G H x a c Q, Same G H → RepC G H a x → op a = some c → c.length ≤ sizeLine ∧ ((∀ p vs, H p = none → Reps G c vs → Q (.ref p) (upd H p (.lst vs))) → r x H Q)
section
variable {R : Type} {F : Fc} {tmp : Tmp} {s : State} {m : Res R} {K : Rs R} {N : Rn R} {Rt : Rr R} {ta tb : TE}
theorem rd_op2 {r : R2} {op : D → D → Option D} (ho : Op2C r op) (h : RD F tmp s ta m (fun tm1 s1 m1 => ∀ x, RD F ((x, tm1) :: tmp) s1 tb m1 (fun tm2 s2 m2 => ∃ a b k, valS s2 tm1 = some a ∧ valS s2 tm2 = some b ∧ m2 = ob (op a b) k ∧ ∀ c, K (.own (.f c)) s2 (k c)))) : RD F tmp s (tOp r ta tb) m K := fun σ H Q hh nf eo q =>
  h σ H _ hh nf eo fun tm1 s1 x H1 h2 h1 => h2 x σ H1 _ h1 nf eo fun tm2 s2 y H2 ⟨a, b, k, ea, eb, em, hk⟩ h3 => by
    obtain ⟨c, ec, em'⟩ := ob_cases (by rw [← em]; exact nf)
    obtain ⟨G, ω, h3⟩ := h3
    exact ho G H2 x y a b c Q h3.gH (h3.repC h3.tm.2.1 ea) (h3.repC h3.tm.1 eb) ec fun v rv => q _ s2 v H2 (by rw [em, em']; exact hk c) ⟨G, ω, h3.pop.pop.pushF rv⟩
theorem rd_op2L {r : R2} {op : D → D → Option (List D)} (ho : Op2L r op) (h : RD F tmp s ta m (fun tm1 s1 m1 => ∀ x, RD F ((x, tm1) :: tmp) s1 tb m1 (fun tm2 s2 m2 => ∃ a b k, valS s2 tm1 = some a ∧ valS s2 tm2 = some b ∧ m2 = ob (op a b) k ∧ ∀ c, K (.own (.l c)) s2 (k c)))) : RD F tmp s (tOp r ta tb) m K := fun σ H Q hh nf eo q =>
  h σ H _ hh nf eo fun tm1 s1 x H1 h2 h1 => h2 x σ H1 _ h1 nf eo fun tm2 s2 y H2 ⟨a, b, k, ea, eb, em, hk⟩ h3 => by
    obtain ⟨c, ec, em'⟩ := ob_cases (by rw [← em]; exact nf)
    obtain ⟨G, ω, h3⟩ := h3
    obtain ⟨z, ho⟩ := ho G H2 x y a b c Q h3.gH (h3.repC h3.tm.2.1 ea) (h3.repC h3.tm.1 eb) ec
    exact ho fun p vs np rv => q _ s2 _ _ (by rw [em, em']; exact hk c) (h3.pop.pop.newL np z rv)
theorem rd_op2B {r : R2} {op : D → D → Option Bool} (ho : Op2B r op) (h : RD F tmp s ta m (fun tm1 s1 m1 => ∀ x, RD F ((x, tm1) :: tmp) s1 tb m1 (fun tm2 s2 m2 => ∃ a b k, valT s2 tm1 = some a ∧ valT s2 tm2 = some b ∧ m2 = ob (op a b) k ∧ ∀ c, K (.own (.f (.bl c))) s2 (k c)))) : RD F tmp s (tOp r ta tb) m K := fun σ H Q hh nf eo q =>
  h σ H _ hh nf eo fun tm1 s1 x H1 h2 h1 => h2 x σ H1 _ h1 nf eo fun tm2 s2 y H2 ⟨a, b, k, ea, eb, em, hk⟩ h3 => by
    obtain ⟨c, ec, em'⟩ := ob_cases (by rw [← em]; exact nf)
    have h4 := h3
    obtain ⟨G, ω, h3⟩ := h3
    exact ho H2 x y a b c Q (h3.repT h3.tm.2.1 ea) (h3.repT h3.tm.1 eb) ec (q _ s2 _ H2 (by rw [em, em']; exact hk c) (holds_bl h4.pop.pop))
theorem rd_un {r : V → Hp → VK → Prop} {op : D → Option D} (ho : Op1C r op) (h : RD F tmp s ta m (fun tm1 s1 m1 => ∃ a k, valS s1 tm1 = some a ∧ m1 = ob (op a) k ∧ ∀ c, K (.own (.f c)) s1 (k c))) : RD F tmp s (tUn r ta) m K := fun σ H Q hh nf eo q =>
  h σ H _ hh nf eo fun tm1 s1 x H1 ⟨a, k, ea, em, hk⟩ h1 => by
    obtain ⟨c, ec, em'⟩ := ob_cases (by rw [← em]; exact nf)
    obtain ⟨G, ω, h1⟩ := h1
    exact ho G H1 x a c Q h1.gH (h1.repC h1.tm.1 ea) ec fun v rv => q _ s1 v H1 (by rw [em, em']; exact hk c) ⟨G, ω, h1.pop.pushF rv⟩
/-- a built-in of one argument -/
theorem rd_cb1 {r : List V → Hp → VK → Prop} {op : D → Option D} (ho : Op1C (fun x H Q => r [x] H Q) op) (h : RD F tmp s ta m (fun tm1 s1 m1 => ∃ a k, valS s1 tm1 = some a ∧ m1 = ob (op a) k ∧ ∀ c, K (.own (.f c)) s1 (k c))) : RD F tmp s (tCB r (tCons ta tNil)) m K := fun σ H Q hh nf eo q =>
  h σ H _ hh nf eo fun tm1 s1 x H1 ⟨a, k, ea, em, hk⟩ h1 => by
    obtain ⟨c, ec, em'⟩ := ob_cases (by rw [← em]; exact nf)
    obtain ⟨G, ω, h1⟩ := h1
    exact ho G H1 x a c Q h1.gH (h1.repC h1.tm.1 ea) ec fun v rv => q _ s1 v H1 (by rw [em, em']; exact hk c) ⟨G, ω, h1.pop.pushF rv⟩
theorem rd_cb1L {r : List V → Hp → VK → Prop} {op : D → Option (List D)} (ho : Op1L (fun x H Q => r [x] H Q) op) (h : RD F tmp s ta m (fun tm1 s1 m1 => ∃ a k, valS s1 tm1 = some a ∧ m1 = ob (op a) k ∧ ∀ c, K (.own (.l c)) s1 (k c))) : RD F tmp s (tCB r (tCons ta tNil)) m K := fun σ H Q hh nf eo q =>
  h σ H _ hh nf eo fun tm1 s1 x H1 ⟨a, k, ea, em, hk⟩ h1 => by
    obtain ⟨c, ec, em'⟩ := ob_cases (by rw [← em]; exact nf)
    obtain ⟨G, ω, h1⟩ := h1
    obtain ⟨z, ho⟩ := ho G H1 x a c Q h1.gH (h1.repC h1.tm.1 ea) ec
    exact ho fun p vs np rv => q _ s1 _ _ (by rw [em, em']; exact hk c) (h1.pop.newL np z rv)
theorem rd_cb2 {r : List V → Hp → VK → Prop} {op : D → D → Option D} (ho : Op2C (fun x y H Q => r [x, y] H Q) op) (h : RD F tmp s ta m (fun tm1 s1 m1 => ∀ x, RD F ((x, tm1) :: tmp) s1 tb m1 (fun tm2 s2 m2 => ∃ a b k, valS s2 tm1 = some a ∧ valS s2 tm2 = some b ∧ m2 = ob (op a b) k ∧ ∀ c, K (.own (.f c)) s2 (k c)))) : RD F tmp s (tCB r (tCons ta (tCons tb tNil))) m K :=
  rd_op2 ho h
/-! tests -/
def asB : D → Option Bool | .bl b => some b | _ => none
def asI : D → Option Int | .int i => some i | _ => none
theorem rt_val {K : Bool → State → Res R → Prop} (h : RD F tmp s ta m (fun tm s1 m1 => ∃ d k, valS s1 tm = some d ∧ m1 = ob (asB d) k ∧ ∀ c, K c s1 (k c))) : RT F tmp s m (tB ta) K := fun σ H Q hh nf eo q =>
  h σ H _ hh nf eo fun tm s1 x H1 ⟨d, k, ea, em, hk⟩ h1 => by
    obtain ⟨c, ec, em'⟩ := ob_cases (by rw [← em]; exact nf)
    have h2 := h1
    obtain ⟨G, ω, h1⟩ := h1
    have r := h1.repC h1.tm.1 ea
    cases d <;> first | cases ec | skip
    exact ⟨_, r, q _ s1 H1 (by rw [em, em']; exact hk _) h2.pop⟩
theorem rt_op2B {r : R2} {op : D → D → Option Bool} {K : Bool → State → Res R → Prop} (ho : Op2B r op) (h : RD F tmp s ta m (fun tm1 s1 m1 => ∀ x, RD F ((x, tm1) :: tmp) s1 tb m1 (fun tm2 s2 m2 => ∃ a b k, valT s2 tm1 = some a ∧ valT s2 tm2 = some b ∧ m2 = ob (op a b) k ∧ ∀ c, K c s2 (k c)))) : RT F tmp s m (tTest (tOp r ta tb)) K := fun σ H Q hh nf eo q =>
  h σ H _ hh nf eo fun tm1 s1 x H1 h2 h1 => h2 x σ H1 _ h1 nf eo fun tm2 s2 y H2 ⟨a, b, k, ea, eb, em, hk⟩ h3 => by
    obtain ⟨c, ec, em'⟩ := ob_cases (by rw [← em]; exact nf)
    have h4 := h3
    obtain ⟨G, ω, h3⟩ := h3
    exact ho H2 x y a b c _ (h3.repT h3.tm.2.1 ea) (h3.repT h3.tm.1 eb) ec ⟨c, rfl, q _ s2 H2 (by rw [em, em']; exact hk c) h4.pop.pop⟩
theorem rt_not {t : TT} {K : Bool → State → Res R → Prop} (h : RT F tmp s m t (fun b s1 m1 => K (!b) s1 m1)) : RT F tmp s m (tNot t) K := fun σ H Q hh nf eo q => h σ H _ hh nf eo fun b s1 H1 hk h1 => q _ s1 H1 hk h1
theorem rt_and {Z : Type} {t u : TT} {K : Bool → State → Res R → Prop} (h : RT F tmp s m t (fun b s1 m1 => ∃ (S : Z → State) (z0 : Z) (ma : Res (Bool × Z)) (k : Bool × Z → Res R), m1 = rb (if b = true then ma else .ok (false, z0)) k ∧ Sub s1 (S z0) ∧
      (b = true → RT F tmp s1 ma u (fun c s2 m2 => ∃ z, m2 = .ok (c, z) ∧ Sub s2 (S z))) ∧ ∀ p : Bool × Z, K p.1 (S p.2) (k p))) : RT F tmp s m (tAnd t u) K := fun σ H Q hh nf eo q =>
  h σ H _ hh nf eo fun b s1 H1 ⟨S, z0, ma, k, em, sb, hu, hk⟩ h1 => by
    cases b with
    | false =>
      simp only [Bool.false_eq_true, if_false] at em ⊢
      exact q false _ H1 (by rw [em]; exact hk (false, z0)) (h1.sub sb)
    | true =>
      simp only [if_true] at em ⊢
      have nf' : ma ≠ .fail := fun z => nf (by rw [em, z]; rfl)
      refine hu rfl σ H1 _ h1 nf' (eo.of fun e he => by rw [em, he]; rfl) fun c s2 H2 ⟨z, e1, sb2⟩ h2 => ?_
      exact q c _ H2 (by rw [em, e1]; exact hk (c, z)) (h2.sub sb2)
theorem rt_or {Z : Type} {t u : TT} {K : Bool → State → Res R → Prop} (h : RT F tmp s m t (fun b s1 m1 => ∃ (S : Z → State) (z0 : Z) (ma : Res (Bool × Z)) (k : Bool × Z → Res R), m1 = rb (if b = true then .ok (true, z0) else ma) k ∧ Sub s1 (S z0) ∧
      (b = false → RT F tmp s1 ma u (fun c s2 m2 => ∃ z, m2 = .ok (c, z) ∧ Sub s2 (S z))) ∧ ∀ p : Bool × Z, K p.1 (S p.2) (k p))) : RT F tmp s m (tOr t u) K := fun σ H Q hh nf eo q =>
  h σ H _ hh nf eo fun b s1 H1 ⟨S, z0, ma, k, em, sb, hu, hk⟩ h1 => by
    cases b with
    | true =>
      simp only [if_true] at em ⊢
      exact q true _ H1 (by rw [em]; exact hk (true, z0)) (h1.sub sb)
    | false =>
      simp only [Bool.false_eq_true, if_false] at em ⊢
      have nf' : ma ≠ .fail := fun z => nf (by rw [em, z]; rfl)
      refine hu rfl σ H1 _ h1 nf' (eo.of fun e he => by rw [em, he]; rfl) fun c s2 H2 ⟨z, e1, sb2⟩ h2 => ?_
      exact q c _ H2 (by rw [em, e1]; exact hk (c, z)) (h2.sub sb2)
/-! and, or, not as values -/
theorem rd_andV {Z : Type} (h : RD F tmp s ta m (fun tm s1 m1 => ∃ d kk, valS s1 tm = some d ∧ m1 = ob (asB d) kk ∧ ∀ b, ∃ (S : Z → State) (z0 : Z) (ma : Res (D × Z)) (k : D × Z → Res R), kk b = rb (if b = true then ma else .ok (.bl false, z0)) k ∧ Sub s1 (S z0) ∧
      (b = true → RD F tmp s1 tb ma (fun tm2 s2 m2 => ∃ d2 z, tm2 = .own (.f d2) ∧ m2 = .ok (d2, z) ∧ Sub s2 (S z))) ∧ ∀ p : D × Z, K (.own (.f p.1)) (S p.2) (k p))) : RD F tmp s (tAndV ta tb) m K := fun σ H Q hh nf eo q =>
  h σ H _ hh nf eo fun tm s1 x H1 ⟨d, kk, ea, em0, hb⟩ h1 => by
    obtain ⟨b, ec, em'⟩ := ob_cases (by rw [← em0]; exact nf)
    have h2 := h1
    obtain ⟨G, ω, h1⟩ := h1
    have r := h1.repC h1.tm.1 ea
    cases d <;> first | cases ec | skip
    refine ⟨_, r, ?_⟩
    obtain ⟨S, z0, ma, k, em, sb, hu, hk⟩ := hb b
    rw [← em', ← em0] at em
    cases b with
    | false =>
      simp only [Bool.false_eq_true, if_false] at em ⊢
      exact q _ _ _ H1 (by rw [em]; exact hk (_, z0)) (holds_bl (h2.pop.sub sb))
    | true =>
      simp only [if_true] at em ⊢
      have nf' : ma ≠ .fail := fun z => nf (by rw [em, z]; rfl)
      refine hu rfl σ H1 _ h2.pop nf' (eo.of fun e he => by rw [em, he]; rfl) fun tm2 s2 y H2 ⟨d2, z, e0, e1, sb2⟩ h3 => ?_
      subst e0
      exact q _ _ y H2 (by rw [em, e1]; exact hk (d2, z)) (h3.sub sb2)
theorem rd_orV {Z : Type} (h : RD F tmp s ta m (fun tm s1 m1 => ∃ d kk, valS s1 tm = some d ∧ m1 = ob (asB d) kk ∧ ∀ b, ∃ (S : Z → State) (z0 : Z) (ma : Res (D × Z)) (k : D × Z → Res R), kk b = rb (if b = true then .ok (.bl true, z0) else ma) k ∧ Sub s1 (S z0) ∧
      (b = false → RD F tmp s1 tb ma (fun tm2 s2 m2 => ∃ d2 z, tm2 = .own (.f d2) ∧ m2 = .ok (d2, z) ∧ Sub s2 (S z))) ∧ ∀ p : D × Z, K (.own (.f p.1)) (S p.2) (k p))) : RD F tmp s (tOrV ta tb) m K := fun σ H Q hh nf eo q =>
  h σ H _ hh nf eo fun tm s1 x H1 ⟨d, kk, ea, em0, hb⟩ h1 => by
    obtain ⟨b, ec, em'⟩ := ob_cases (by rw [← em0]; exact nf)
    have h2 := h1
    obtain ⟨G, ω, h1⟩ := h1
    have r := h1.repC h1.tm.1 ea
    cases d <;> first | cases ec | skip
    refine ⟨_, r, ?_⟩
    obtain ⟨S, z0, ma, k, em, sb, hu, hk⟩ := hb b
    rw [← em', ← em0] at em
    cases b with
    | true =>
      simp only [if_true] at em ⊢
      exact q _ _ _ H1 (by rw [em]; exact hk (_, z0)) (holds_bl (h2.pop.sub sb))
    | false =>
      simp only [Bool.false_eq_true, if_false] at em ⊢
      have nf' : ma ≠ .fail := fun z => nf (by rw [em, z]; rfl)
      refine hu rfl σ H1 _ h2.pop nf' (eo.of fun e he => by rw [em, he]; rfl) fun tm2 s2 y H2 ⟨d2, z, e0, e1, sb2⟩ h3 => ?_
      subst e0
      exact q _ _ y H2 (by rw [em, e1]; exact hk (d2, z)) (h3.sub sb2)
theorem rd_notV (h : RD F tmp s ta m (fun tm s1 m1 => ∃ d k, valS s1 tm = some d ∧ m1 = ob (asB d) k ∧ ∀ b, K (.own (.f (.bl (!b)))) s1 (k b))) : RD F tmp s (tNotV ta) m K := fun σ H Q hh nf eo q =>
  h σ H _ hh nf eo fun tm s1 x H1 ⟨d, k, ea, em, hk⟩ h1 => by
    obtain ⟨c, ec, em'⟩ := ob_cases (by rw [← em]; exact nf)
    have h2 := h1
    obtain ⟨G, ω, h1⟩ := h1
    have r := h1.repC h1.tm.1 ea
    cases d <;> first | cases ec | skip
    exact ⟨_, r, q _ s1 _ H1 (by rw [em, em']; exact hk _) (holds_bl h2.pop)⟩
/-! displays -/
def frozs : List TM → Option (List D)
  | [] => some []
  | .own (.f d) :: r => (frozs r).map (d :: ·)
  | _ :: _ => none
theorem frozs_reps {G H : Hp} {ω : Addr → Option Lab} {σ : St} : ∀ (vs : List V) (tms : List TM) (tmp : Tmp) (ds : List D), vs.length = tms.length → frozs tms = some ds → Tms G H ω σ (pushes vs tms tmp) → Tms G H ω σ tmp ∧ Reps G ds vs := fun vs tms tmp ds hl hf ht => by
  obtain ⟨h0, h1⟩ := Tms.args vs tms tmp hl ht
  refine ⟨h0, ?_⟩
  have key : ∀ (tms : List TM) (ds : List D), frozs tms = some ds → ds.length = tms.length ∧ ∀ (k : Nat) d, ds[k]? = some d → tms[k]? = some (.own (.f d)) := by
    intro tms
    induction tms with
    | nil => intro ds h; cases h; exact ⟨rfl, fun k d e => by simp at e⟩
    | cons tm r ih =>
      intro ds h
      cases tm with
      | ali i => cases h
      | own t =>
        cases t <;> try (simp [frozs] at h; done)
        rename_i d0
        cases e : frozs r with
        | none => simp [frozs, e] at h
        | some ds' =>
          simp [frozs, e] at h
          subst h
          obtain ⟨a, b⟩ := ih ds' e
          refine ⟨by simp [a], fun k d e2 => ?_⟩
          cases k with
          | zero => simp at e2; subst e2; rfl
          | succ k => simpa using b k d (by simpa using e2)
  obtain ⟨k1, k2⟩ := key tms ds hf
  refine Reps.of (by rw [k1, hl]) fun i d v e1 e2 => ?_
  obtain ⟨w, w1, w2⟩ := h1 i _ (k2 i d e1)
  rw [e2] at w1; cases w1
  exact w2
theorem rd_lst {t : TA} (h : RA F tmp s m t (fun tms s1 m1 => ∃ ds, frozs tms = some ds ∧ ds.length ≤ 1000 ∧ K (.own (.l ds)) s1 m1)) : RD F tmp s (tLst t) m K := fun σ H Q hh nf eo q =>
  h σ H _ hh nf eo fun tms s1 vs H1 ⟨ds, hf, hz, hk⟩ hl h1 => by
    obtain ⟨G, ω, h2⟩ := h1
    obtain ⟨t0, r⟩ := frozs_reps vs tms tmp ds hl hf h2.tm
    have h3 : Hd F G ω tmp s1 σ H1 := { h2 with tm := t0 }
    have z : ds.length ≤ sizeLine := by rw [sizeLine_eq]; omega
    exact ⟨by rw [← r.length]; exact z, fun p hp => q _ s1 _ _ hk (h3.newL hp z r)⟩
theorem rd_tup {t : TA} (h : RA F tmp s m t (fun tms s1 m1 => ∃ ds, frozs tms = some ds ∧ ds.length ≤ 1000 ∧ K (.own (.f (.tup ds))) s1 m1)) : RD F tmp s (tTup t) m K := fun σ H Q hh nf eo q =>
  h σ H _ hh nf eo fun tms s1 vs H1 ⟨ds, hf, hz, hk⟩ hl h1 => by
    obtain ⟨G, ω, h2⟩ := h1
    obtain ⟨t0, r⟩ := frozs_reps vs tms tmp ds hl hf h2.tm
    have h3 : Hd F G ω tmp s1 σ H1 := { h2 with tm := t0 }
    have z : ds.length ≤ sizeLine := by rw [sizeLine_eq]; omega
    exact ⟨by rw [← r.length]; exact z, fun p hp => q _ s1 _ _ hk (h3.newT hp z r)⟩
end
end VL

namespace VL
open PySem L2 PySem.SeqAt
variable [EC]

theorem mkS_beq (a b : List Nat) : (mkS a == mkS b) = (a == b) := by
  by_cases h : a = b
  · subst h; simp
  · have h2 : ¬ mkS a = mkS b := fun z => h (mkS_inj z)
    rw [beq_eq_false_iff_ne.mpr h]
    exact beq_eq_false_iff_ne.mpr h2
/-! == -/
mutual
def D.eqv : D → D → Bool
  | .non, .non => true
  | .bl a, .bl b => a == b
  | .bl a, .int b => (if a then 1 else 0) == b
  | .int a, .bl b => a == (if b then 1 else 0)
  | .int a, .int b => a == b
  | .str a, .str b => a == b
  | .tup a, .tup b => D.eqvs a b
  | .lst a, .lst b => D.eqvs a b
  | _, _ => false
def D.eqvs : List D → List D → Bool
  | [], [] => true
  | a :: r, b :: q => D.eqv a b && D.eqvs r q
  | _, _ => false
end
mutual
def D.plain : D → Bool
  | .tup l => D.plains l
  | .lst l => D.plains l
  | .dct _ _ => false
  | .opq _ => false
  | .exc _ _ => false
  | .fd _ _ _ => false
  | .fz _ => false
  | .non => true
  | .bl _ => true
  | .int _ => true
  | .str _ => true
def D.plains : List D → Bool
  | [] => true
  | a :: r => D.plain a && D.plains r
end
mutual
def D.dep : D → Nat
  | .tup l => D.deps l + 1
  | .lst l => D.deps l + 1
  | .dct _ _ => 0
  | .opq _ => 0
  | .exc _ _ => 0
  | .fd _ _ _ => 0
  | .fz _ => 0
  | .non => 0
  | .bl _ => 0
  | .int _ => 0
  | .str _ => 0
def D.deps : List D → Nat
  | [] => 0
  | a :: r => max (D.dep a) (D.deps r)
end
theorem rd_inj {H : Hp} {a : Addr} {o u : List V} (h : Rd H a (.lst o)) (q : Rd H a (.lst u)) : o = u := by
  rcases h with h | ⟨_, h⟩ <;> rcases q with q | ⟨_, q⟩ <;> (rw [h] at q; first | (cases q; done) | (cases q; rfl))
mutual
theorem rep_inj {H : Hp} : ∀ (a b : D) (v : V), a.plain = true → b.plain = true → Rep H a v → Rep H b v → a = b

  | .non, .non, _, _, _, _, _ => rfl
  | .non, .bl y, v, _, _, h, q => by have e := (show v = .non from h).symm.trans (show v = .bl y from q); cases e
  | .non, .int y, v, _, _, h, q => by have e := (show v = .non from h).symm.trans (show v = .int y from q); cases e
  | .non, .str y, v, _, _, h, q => by have e := (show v = .non from h).symm.trans (show v = .str (mkS y) from q); cases e
  | .non, .tup l, v, _, _, h, ⟨_, _, e, _⟩ => by have e2 := (show v = .non from h).symm.trans e; cases e2
  | .non, .lst l, v, _, _, h, ⟨_, _, e, _⟩ => by have e2 := (show v = .non from h).symm.trans e; cases e2
  | .bl x, .non, v, _, _, h, q => by have e := (show v = .bl x from h).symm.trans (show v = .non from q); cases e
  | .bl x, .bl y, v, _, _, h, q => by
    have e := (show v = .bl x from h).symm.trans (show v = .bl y from q)
    injection e with e
    rw [e]
  | .bl x, .int y, v, _, _, h, q => by have e := (show v = .bl x from h).symm.trans (show v = .int y from q); cases e
  | .bl x, .str y, v, _, _, h, q => by have e := (show v = .bl x from h).symm.trans (show v = .str (mkS y) from q); cases e
  | .bl x, .tup l, v, _, _, h, ⟨_, _, e, _⟩ => by have e2 := (show v = .bl x from h).symm.trans e; cases e2
  | .bl x, .lst l, v, _, _, h, ⟨_, _, e, _⟩ => by have e2 := (show v = .bl x from h).symm.trans e; cases e2
  | .int x, .non, v, _, _, h, q => by have e := (show v = .int x from h).symm.trans (show v = .non from q); cases e
  | .int x, .bl y, v, _, _, h, q => by have e := (show v = .int x from h).symm.trans (show v = .bl y from q); cases e
  | .int x, .int y, v, _, _, h, q => by
    have e := (show v = .int x from h).symm.trans (show v = .int y from q)
    injection e with e
    rw [e]
  | .int x, .str y, v, _, _, h, q => by have e := (show v = .int x from h).symm.trans (show v = .str (mkS y) from q); cases e
  | .int x, .tup l, v, _, _, h, ⟨_, _, e, _⟩ => by have e2 := (show v = .int x from h).symm.trans e; cases e2
  | .int x, .lst l, v, _, _, h, ⟨_, _, e, _⟩ => by have e2 := (show v = .int x from h).symm.trans e; cases e2
  | .str x, .non, v, _, _, h, q => by have e := (show v = .str (mkS x) from h).symm.trans (show v = .non from q); cases e
  | .str x, .bl y, v, _, _, h, q => by have e := (show v = .str (mkS x) from h).symm.trans (show v = .bl y from q); cases e
  | .str x, .int y, v, _, _, h, q => by have e := (show v = .str (mkS x) from h).symm.trans (show v = .int y from q); cases e
  | .str x, .str y, v, _, _, h, q => by
    have e := (show v = .str (mkS x) from h).symm.trans (show v = .str (mkS y) from q)
    injection e with e
    rw [mkS_inj e]
  | .str x, .tup l, v, _, _, h, ⟨_, _, e, _⟩ => by have e2 := (show v = .str (mkS x) from h).symm.trans e; cases e2
  | .str x, .lst l, v, _, _, h, ⟨_, _, e, _⟩ => by have e2 := (show v = .str (mkS x) from h).symm.trans e; cases e2
  | .tup l, .non, v, _, _, ⟨_, _, e, _⟩, q => by have e2 := e.symm.trans (show v = .non from q); cases e2
  | .tup l, .bl y, v, _, _, ⟨_, _, e, _⟩, q => by have e2 := e.symm.trans (show v = .bl y from q); cases e2
  | .tup l, .int y, v, _, _, ⟨_, _, e, _⟩, q => by have e2 := e.symm.trans (show v = .int y from q); cases e2
  | .tup l, .str y, v, _, _, ⟨_, _, e, _⟩, q => by have e2 := e.symm.trans (show v = .str (mkS y) from q); cases e2
  | .lst l, .non, v, _, _, ⟨_, _, e, _⟩, q => by have e2 := e.symm.trans (show v = .non from q); cases e2
  | .lst l, .bl y, v, _, _, ⟨_, _, e, _⟩, q => by have e2 := e.symm.trans (show v = .bl y from q); cases e2
  | .lst l, .int y, v, _, _, ⟨_, _, e, _⟩, q => by have e2 := e.symm.trans (show v = .int y from q); cases e2
  | .lst l, .str y, v, _, _, ⟨_, _, e, _⟩, q => by have e2 := e.symm.trans (show v = .str (mkS y) from q); cases e2
  | .tup l, .tup m, v, p1, p2, ⟨a, vs, e, g, _, r⟩, ⟨a2, vs2, e2, g2, _, r2⟩ => by
    rw [e] at e2; cases e2; rw [g] at g2; cases g2
    rw [reps_inj l m vs p1 p2 r r2]
  | .lst l, .lst m, v, p1, p2, ⟨a, vs, e, g, _, r⟩, ⟨a2, vs2, e2, g2, _, r2⟩ => by
    rw [e] at e2; cases e2; cases rd_inj g g2
    rw [reps_inj l m vs p1 p2 r r2]
  | .tup l, .lst m, v, p1, p2, ⟨a, vs, e, g, _, r⟩, ⟨a2, vs2, e2, g2, _, r2⟩ => by
    rw [e] at e2; cases e2
    rcases g2 with g2 | ⟨_, g2⟩ <;> (rw [g] at g2; cases g2)
  | .lst l, .tup m, v, p1, p2, ⟨a, vs, e, g, _, r⟩, ⟨a2, vs2, e2, g2, _, r2⟩ => by
    rw [e] at e2; cases e2
    rcases g with g | ⟨_, g⟩ <;> (rw [g] at g2; cases g2)
  | .dct _ _, _, _, p, _, _, _ => by cases p
  | .opq _, _, _, p, _, _, _ => by cases p
  | .exc _ _, _, _, p, _, _, _ => by cases p
  | .fd _ _ _, _, _, p, _, _, _ => by cases p
  | .fz _, _, _, p, _, _, _ => by cases p
  | _, .dct _ _, _, _, p, _, _ => by cases p
  | _, .opq _, _, _, p, _, _ => by cases p
  | _, .exc _ _, _, _, p, _, _ => by cases p
  | _, .fd _ _ _, _, _, p, _, _ => by cases p
  | _, .fz _, _, _, p, _, _ => by cases p
theorem reps_inj {H : Hp} : ∀ (a b : List D) (v : List V), D.plains a = true → D.plains b = true → Reps H a v → Reps H b v → a = b
  | [], [], _, _, _, _, _ => rfl
  | [], _ :: _, _, _, _, h, ⟨_, _, e, _⟩ => by rw [show _ = [] from h] at e; cases e
  | _ :: _, [], _, _, _, ⟨_, _, e, _⟩, h => by rw [show _ = [] from h] at e; cases e
  | a :: r, b :: q, _, p1, p2, ⟨v, vs, e, h, k⟩, ⟨v2, vs2, e2, h2, k2⟩ => by
    simp only [D.plains, Bool.and_eq_true] at p1 p2
    rw [e] at e2; cases e2
    rw [rep_inj a b v p1.1 p2.1 h h2, reps_inj r q vs p1.2 p2.2 k k2]
end
mutual
theorem eqv_refl : ∀ a : D, a.plain = true → D.eqv a a = true
  | .non, _ => rfl
  | .bl b, _ => by simp [D.eqv]
  | .int b, _ => by simp [D.eqv]
  | .str b, _ => by simp [D.eqv]
  | .tup l, p => eqvs_refl l p
  | .lst l, p => eqvs_refl l p
  | .dct _ _, p => by cases p
  | .opq _, p => by cases p
  | .exc _ _, p => by cases p
  | .fd _ _ _, p => by cases p
  | .fz _, p => by cases p
theorem eqvs_refl : ∀ a : List D, D.plains a = true → D.eqvs a a = true
  | [], _ => rfl
  | a :: r, p => by
    simp only [D.plains, Bool.and_eq_true] at p
    simp only [D.eqvs, eqv_refl a p.1, eqvs_refl r p.2, Bool.and_self]
end
def eqAtJ (l m : List D) (j : Nat) : Bool := D.eqv (l.getD j .non) (m.getD j .non)
theorem all_range_succ (n : Nat) (f : Nat → Bool) : (List.range (n + 1)).all f = (f 0 && (List.range n).all fun j => f (j + 1)) := by
  rw [List.range_succ_eq_map, List.all_cons, List.all_map]; rfl
theorem eqvs_eq : ∀ l m : List D, ((List.range (min l.length m.length)).all (eqAtJ l m) && l.length == m.length) = D.eqvs l m
  | [], [] => rfl
  | [], _ :: _ => rfl
  | _ :: _, [] => rfl
  | a :: r, b :: q => by
    have ih := eqvs_eq r q
    rw [List.length_cons, List.length_cons, show min (r.length + 1) (q.length + 1) = min r.length q.length + 1 by omega, all_range_succ]
    show ((D.eqv a b && (List.range (min r.length q.length)).all fun j => eqAtJ r q j) && (r.length + 1 == q.length + 1)) = (D.eqv a b && D.eqvs r q)
    rw [← ih, Bool.and_assoc]
    congr 2
    by_cases h : r.length = q.length
    · rw [h, beq_self_eq_true, beq_self_eq_true]
    · rw [beq_eq_false_iff_ne.mpr h, beq_eq_false_iff_ne.mpr (by omega)]
section
variable {X : Cx} {pins : List (Addr × Obj)} {σ : St} {H : Hp} {s : Shared}
theorem at_lst (I : Inv X pins σ H s) {l : List D} {x : V} {u : Value} (h : Rep H (.lst l) x) (r : RelV x u) : ∃ a vs its, x = .ref a ∧ u = .ref a ∧ s.heap.IsList a (its : List Value).toArray ∧ Vals vs its ∧ Reps H l vs ∧ l.length = its.length := by
  obtain ⟨a, vs, e, g, z, q⟩ := h
  subst e
  obtain ⟨its, rv, pl, _⟩ := I.list (.inl g)
  exact ⟨a, vs, its, rfl, r, pl.isList, rv, q, q.length.trans rv.length⟩
theorem at_tup (I : Inv X pins σ H s) {l : List D} {x : V} {u : Value} (h : Rep H (.tup l) x) (r : RelV x u) : ∃ a vs its, x = .ref a ∧ u = .ref a ∧ s.heap.IsTuple a (its : List Value).toArray ∧ Vals vs its ∧ Reps H l vs ∧ l.length = its.length := by
  obtain ⟨a, vs, e, g, z, q⟩ := h
  subst e
  obtain ⟨its, rv, pl, _⟩ := I.tuple (.inl (.inl g))
  exact ⟨a, vs, its, rfl, r, pl, rv, q, q.length.trans rv.length⟩
theorem in1_units (A : Around) : A.in1.units = A.units + 1 := rfl
mutual
theorem eqAt_d (I : Inv X pins σ H s) : ∀ (a b : D), ∀ (A : Around) (x y : V) (u w : Value), a.plain = true → b.plain = true → Rep H a x → Rep H b y → RelV x u → RelV y w → A.units + min a.dep b.dep < cLine → EqAt A s u w (D.eqv a b)

  | .non, .non => by
    intro A x y u w p1 p2 h k r1 r2 hu
    cases (show x = .non from h)
    cases r1
    cases (show y = .non from k)
    cases r2
    exact EqAt.same _
  | .non, .bl q => by
    intro A x y u w p1 p2 h k r1 r2 hu
    cases (show x = .non from h)
    cases r1
    cases (show y = .bl _ from k)
    cases r2
    exact EqAt.none_bool _
  | .non, .int q => by
    intro A x y u w p1 p2 h k r1 r2 hu
    cases (show x = .non from h)
    cases r1
    cases (show y = .int _ from k)
    obtain ⟨t2, rfl⟩ := r2
    exact EqAt.none_int _ t2
  | .non, .str q => by
    intro A x y u w p1 p2 h k r1 r2 hu
    cases (show x = .non from h)
    cases r1
    cases (show y = .str _ from k)
    obtain ⟨t2, rfl⟩ := r2
    exact EqAt.none_str _ t2
  | .non, .tup l => by
    intro A x y u w p1 p2 h k r1 r2 hu
    cases (show x = .non from h)
    cases r1
    obtain ⟨_, _, _, rfl, rfl, hl, _⟩ := at_tup I k r2
    exact EqAt.none_tuple hl (by omega)
  | .non, .lst l => by
    intro A x y u w p1 p2 h k r1 r2 hu
    cases (show x = .non from h)
    cases r1
    obtain ⟨_, _, _, rfl, rfl, hl, _⟩ := at_lst I k r2
    exact EqAt.none_list hl (by omega)
  | .bl p, .non => by
    intro A x y u w p1 p2 h k r1 r2 hu
    cases (show x = .bl _ from h)
    cases r1
    cases (show y = .non from k)
    cases r2
    exact EqAt.bool_none _
  | .bl p, .bl q => by
    intro A x y u w p1 p2 h k r1 r2 hu
    cases (show x = .bl _ from h)
    cases r1
    cases (show y = .bl _ from k)
    cases r2
    exact EqAt.bool_bool _ _
  | .bl p, .int q => by
    intro A x y u w p1 p2 h k r1 r2 hu
    cases (show x = .bl _ from h)
    cases r1
    cases (show y = .int _ from k)
    obtain ⟨t2, rfl⟩ := r2
    exact EqAt.bool_int _ _ t2
  | .bl p, .str q => by
    intro A x y u w p1 p2 h k r1 r2 hu
    cases (show x = .bl _ from h)
    cases r1
    cases (show y = .str _ from k)
    obtain ⟨t2, rfl⟩ := r2
    exact EqAt.bool_str _ _ t2
  | .bl p, .tup l => by
    intro A x y u w p1 p2 h k r1 r2 hu
    cases (show x = .bl _ from h)
    cases r1
    obtain ⟨_, _, _, rfl, rfl, hl, _⟩ := at_tup I k r2
    exact EqAt.bool_tuple _ hl (by omega)
  | .bl p, .lst l => by
    intro A x y u w p1 p2 h k r1 r2 hu
    cases (show x = .bl _ from h)
    cases r1
    obtain ⟨_, _, _, rfl, rfl, hl, _⟩ := at_lst I k r2
    exact EqAt.bool_list _ hl (by omega)
  | .int p, .non => by
    intro A x y u w p1 p2 h k r1 r2 hu
    cases (show x = .int _ from h)
    obtain ⟨t1, rfl⟩ := r1
    cases (show y = .non from k)
    cases r2
    exact EqAt.int_none _ t1
  | .int p, .bl q => by
    intro A x y u w p1 p2 h k r1 r2 hu
    cases (show x = .int _ from h)
    obtain ⟨t1, rfl⟩ := r1
    cases (show y = .bl _ from k)
    cases r2
    exact EqAt.int_bool _ t1 _
  | .int p, .int q => by
    intro A x y u w p1 p2 h k r1 r2 hu
    cases (show x = .int _ from h)
    obtain ⟨t1, rfl⟩ := r1
    cases (show y = .int _ from k)
    obtain ⟨t2, rfl⟩ := r2
    exact EqAt.int_int _ t1 _ t2
  | .int p, .str q => by
    intro A x y u w p1 p2 h k r1 r2 hu
    cases (show x = .int _ from h)
    obtain ⟨t1, rfl⟩ := r1
    cases (show y = .str _ from k)
    obtain ⟨t2, rfl⟩ := r2
    exact EqAt.int_str _ t1 _ t2
  | .int p, .tup l => by
    intro A x y u w p1 p2 h k r1 r2 hu
    cases (show x = .int _ from h)
    obtain ⟨t1, rfl⟩ := r1
    obtain ⟨_, _, _, rfl, rfl, hl, _⟩ := at_tup I k r2
    exact EqAt.int_tuple _ t1 hl (by omega)
  | .int p, .lst l => by
    intro A x y u w p1 p2 h k r1 r2 hu
    cases (show x = .int _ from h)
    obtain ⟨t1, rfl⟩ := r1
    obtain ⟨_, _, _, rfl, rfl, hl, _⟩ := at_lst I k r2
    exact EqAt.int_list _ t1 hl (by omega)
  | .str p, .non => by
    intro A x y u w p1 p2 h k r1 r2 hu
    cases (show x = .str _ from h)
    obtain ⟨t1, rfl⟩ := r1
    cases (show y = .non from k)
    cases r2
    exact EqAt.str_none _ t1
  | .str p, .bl q => by
    intro A x y u w p1 p2 h k r1 r2 hu
    cases (show x = .str _ from h)
    obtain ⟨t1, rfl⟩ := r1
    cases (show y = .bl _ from k)
    cases r2
    exact EqAt.str_bool _ t1 _
  | .str p, .int q => by
    intro A x y u w p1 p2 h k r1 r2 hu
    cases (show x = .str _ from h)
    obtain ⟨t1, rfl⟩ := r1
    cases (show y = .int _ from k)
    obtain ⟨t2, rfl⟩ := r2
    exact EqAt.str_int _ t1 _ t2
  | .str p, .str q => by
    intro A x y u w p1 p2 h k r1 r2 hu
    cases (show x = .str _ from h)
    obtain ⟨t1, rfl⟩ := r1
    cases (show y = .str _ from k)
    obtain ⟨t2, rfl⟩ := r2
    show EqAt A s _ _ (p == q)
    rw [← mkS_beq]
    exact EqAt.str_str _ t1 _ t2
  | .str p, .tup l => by
    intro A x y u w p1 p2 h k r1 r2 hu
    cases (show x = .str _ from h)
    obtain ⟨t1, rfl⟩ := r1
    obtain ⟨_, _, _, rfl, rfl, hl, _⟩ := at_tup I k r2
    exact EqAt.str_tuple _ t1 hl (by omega)
  | .str p, .lst l => by
    intro A x y u w p1 p2 h k r1 r2 hu
    cases (show x = .str _ from h)
    obtain ⟨t1, rfl⟩ := r1
    obtain ⟨_, _, _, rfl, rfl, hl, _⟩ := at_lst I k r2
    exact EqAt.str_list _ t1 hl (by omega)
  | .tup l, .non => by
    intro A x y u w p1 p2 h k r1 r2 hu
    cases (show y = .non from k)
    cases r2
    obtain ⟨_, _, _, rfl, rfl, hl, _⟩ := at_tup I h r1
    exact EqAt.tuple_none hl (by omega)
  | .tup l, .bl q => by
    intro A x y u w p1 p2 h k r1 r2 hu
    cases (show y = .bl _ from k)
    cases r2
    obtain ⟨_, _, _, rfl, rfl, hl, _⟩ := at_tup I h r1
    exact EqAt.tuple_bool _ hl (by omega)
  | .tup l, .int q => by
    intro A x y u w p1 p2 h k r1 r2 hu
    cases (show y = .int _ from k)
    obtain ⟨t2, rfl⟩ := r2
    obtain ⟨_, _, _, rfl, rfl, hl, _⟩ := at_tup I h r1
    exact EqAt.tuple_int _ t2 hl (by omega)
  | .tup l, .str q => by
    intro A x y u w p1 p2 h k r1 r2 hu
    cases (show y = .str _ from k)
    obtain ⟨t2, rfl⟩ := r2
    obtain ⟨_, _, _, rfl, rfl, hl, _⟩ := at_tup I h r1
    exact EqAt.tuple_str _ t2 hl (by omega)
  | .lst l, .non => by
    intro A x y u w p1 p2 h k r1 r2 hu
    cases (show y = .non from k)
    cases r2
    obtain ⟨_, _, _, rfl, rfl, hl, _⟩ := at_lst I h r1
    exact EqAt.list_none hl (by omega)
  | .lst l, .bl q => by
    intro A x y u w p1 p2 h k r1 r2 hu
    cases (show y = .bl _ from k)
    cases r2
    obtain ⟨_, _, _, rfl, rfl, hl, _⟩ := at_lst I h r1
    exact EqAt.list_bool _ hl (by omega)
  | .lst l, .int q => by
    intro A x y u w p1 p2 h k r1 r2 hu
    cases (show y = .int _ from k)
    obtain ⟨t2, rfl⟩ := r2
    obtain ⟨_, _, _, rfl, rfl, hl, _⟩ := at_lst I h r1
    exact EqAt.list_int _ t2 hl (by omega)
  | .lst l, .str q => by
    intro A x y u w p1 p2 h k r1 r2 hu
    cases (show y = .str _ from k)
    obtain ⟨t2, rfl⟩ := r2
    obtain ⟨_, _, _, rfl, rfl, hl, _⟩ := at_lst I h r1
    exact EqAt.list_str _ t2 hl (by omega)
  | .tup l, .lst m => by
    intro A x y u w p1 p2 h k r1 r2 hu
    obtain ⟨_, _, _, rfl, rfl, hl, _⟩ := at_tup I h r1
    obtain ⟨_, _, _, rfl, rfl, hm, _⟩ := at_lst I k r2
    exact EqAt.tuple_list hl hm (by omega)
  | .lst l, .tup m => by
    intro A x y u w p1 p2 h k r1 r2 hu
    obtain ⟨_, _, _, rfl, rfl, hl, _⟩ := at_lst I h r1
    obtain ⟨_, _, _, rfl, rfl, hm, _⟩ := at_tup I k r2
    exact EqAt.list_tuple hl hm (by omega)
  | .tup l, .tup m => by
    intro A x y u w p1 p2 h k r1 r2 hu
    obtain ⟨a, vs, its, ea, eu, hl, v1, q1, n1⟩ := at_tup I h r1
    obtain ⟨b, ws, its2, eb, ew, hm, v2, q2, n2⟩ := at_tup I k r2
    by_cases hab : a = b
    · subst hab
      rw [eb, ← ea] at k
      have := rep_inj (.tup l) (.tup m) x p1 p2 h k
      rw [← this, eqv_refl _ p1, eu, ew]
      exact EqAt.same _
    · rw [eu, ew]
      show EqAt A s _ _ (D.eqvs l m)
      rw [← eqvs_eq]
      simp only [D.dep] at hu
      have hA : A.units < cLine := by omega
      have z := EqAt.of_refs hab (RcAt.tuples (e := eqAtJ l m) hl hm hA fun j j1 j2 => by
        have := eqAt_ds I l m A.in1 vs ws its its2 p1 p2 q1 q2 v1 v2 (by rw [in1_units]; omega) j (by simpa using j1) (by simpa using j2)
        simpa using this)
      rw [List.size_toArray, List.size_toArray, ← n1, ← n2] at z
      exact z
  | .lst l, .lst m => by
    intro A x y u w p1 p2 h k r1 r2 hu
    obtain ⟨a, vs, its, ea, eu, hl, v1, q1, n1⟩ := at_lst I h r1
    obtain ⟨b, ws, its2, eb, ew, hm, v2, q2, n2⟩ := at_lst I k r2
    by_cases hab : a = b
    · subst hab
      rw [eb, ← ea] at k
      have := rep_inj (.lst l) (.lst m) x p1 p2 h k
      rw [← this, eqv_refl _ p1, eu, ew]
      exact EqAt.same _
    · rw [eu, ew]
      show EqAt A s _ _ (D.eqvs l m)
      rw [← eqvs_eq]
      simp only [D.dep] at hu
      have hA : A.units < cLine := by omega
      by_cases hn : its.length = its2.length
      · have z := EqAt.of_refs hab (RcAt.lists (e := eqAtJ l m) hl hm (by simpa using hn) hA fun j j1 j2 => by
          have := eqAt_ds I l m A.in1 vs ws its its2 p1 p2 q1 q2 v1 v2 (by rw [in1_units]; omega) j (by simpa using j1) (by simpa using j2)
          simpa using this)
        rw [List.size_toArray, ← n1] at z
        rw [show l.length = m.length by omega, beq_self_eq_true, Bool.and_true, Nat.min_self, ← show l.length = m.length by omega]
        exact z
      · rw [beq_eq_false_iff_ne.mpr (by omega : l.length ≠ m.length), Bool.and_false]
        exact EqAt.of_refs hab (RcAt.lists_lengths hl hm (by simpa using hn) hA)
  | .dct _ _, _ => by intro A x y u w p1 p2 h k r1 r2 hu; cases p1
  | .opq _, _ => by intro A x y u w p1 p2 h k r1 r2 hu; cases p1
  | .exc _ _, _ => by intro A x y u w p1 p2 h k r1 r2 hu; cases p1
  | .fd _ _ _, _ => by intro A x y u w p1 p2 h k r1 r2 hu; cases p1
  | .fz _, _ => by intro A x y u w p1 p2 h k r1 r2 hu; cases p1
  | _, .dct _ _ => by intro A x y u w p1 p2 h k r1 r2 hu; cases p2
  | _, .opq _ => by intro A x y u w p1 p2 h k r1 r2 hu; cases p2
  | _, .exc _ _ => by intro A x y u w p1 p2 h k r1 r2 hu; cases p2
  | _, .fd _ _ _ => by intro A x y u w p1 p2 h k r1 r2 hu; cases p2
  | _, .fz _ => by intro A x y u w p1 p2 h k r1 r2 hu; cases p2
theorem eqAt_ds (I : Inv X pins σ H s) : ∀ (l m : List D) (A : Around) (xs ys : List V) (us ws : List Value), D.plains l = true → D.plains m = true → Reps H l xs → Reps H m ys → Vals xs us → Vals ys ws → A.units + min (D.deps l) (D.deps m) < cLine →
    ∀ j (h1 : j < us.length) (h2 : j < ws.length), EqAt A s us[j] ws[j] (eqAtJ l m j)
  | [], _, _, _, _, _, _, _, _, h, _, v1, _, _, j, h1, _ => by
    cases (show _ = [] from h); cases v1; exact absurd h1 (Nat.not_lt_zero _)
  | _ :: _, [], _, _, _, _, _, _, _, _, h, _, v2, _, j, _, h2 => by
    cases (show _ = [] from h); cases v2; exact absurd h2 (Nat.not_lt_zero _)
  | a :: l, b :: m, A, _, _, _, _, p1, p2, ⟨x, xs, e1, q1, r1⟩, ⟨y, ys, e2, q2, r2⟩, v1, v2, hu, j, h1, h2 => by
    subst e1; subst e2
    simp only [D.plains, Bool.and_eq_true] at p1 p2
    simp only [D.deps] at hu
    cases v1 with
    | cons z1 v1 =>
      cases v2 with
      | cons z2 v2 =>
        cases j with
        | zero => exact eqAt_d I a b A x y _ _ p1.1 p2.1 q1 q2 z1 z2 (by omega)
        | succ j => exact eqAt_ds I l m A xs ys _ _ p1.2 p2.2 r1 r2 v1 v2 (by omega) j (Nat.lt_of_succ_lt_succ h1) (Nat.lt_of_succ_lt_succ h2)
end

theorem rcEq_d (I : Inv X pins σ H s) : ∀ (a b : D), ∀ (A : Around) (x y : V) (u w : Value), a.plain = true → b.plain = true → Rep H a x → Rep H b y → RelV x u → RelV y w → A.units + min a.dep b.dep < cLine → RcAt A s u w (D.eqv a b)
  | .non, .non => by
    intro A x y u w p1 p2 h k r1 r2 hu
    cases (show x = .non from h)
    cases r1
    cases (show y = .non from k)
    cases r2
    exact RcAt.none_none
  | .non, .bl q => by
    intro A x y u w p1 p2 h k r1 r2 hu
    cases (show x = .non from h)
    cases r1
    cases (show y = .bl _ from k)
    cases r2
    exact RcAt.none_bool _
  | .non, .int q => by
    intro A x y u w p1 p2 h k r1 r2 hu
    cases (show x = .non from h)
    cases r1
    cases (show y = .int _ from k)
    obtain ⟨t2, rfl⟩ := r2
    exact RcAt.none_int _ t2
  | .non, .str q => by
    intro A x y u w p1 p2 h k r1 r2 hu
    cases (show x = .non from h)
    cases r1
    cases (show y = .str _ from k)
    obtain ⟨t2, rfl⟩ := r2
    exact RcAt.none_str _ t2
  | .non, .tup l => by
    intro A x y u w p1 p2 h k r1 r2 hu
    cases (show x = .non from h)
    cases r1
    obtain ⟨_, _, _, rfl, rfl, hl, _⟩ := at_tup I k r2
    exact RcAt.none_tuple hl (by omega)
  | .non, .lst l => by
    intro A x y u w p1 p2 h k r1 r2 hu
    cases (show x = .non from h)
    cases r1
    obtain ⟨_, _, _, rfl, rfl, hl, _⟩ := at_lst I k r2
    exact RcAt.none_list hl (by omega)
  | .bl p, .non => by
    intro A x y u w p1 p2 h k r1 r2 hu
    cases (show x = .bl _ from h)
    cases r1
    cases (show y = .non from k)
    cases r2
    exact RcAt.bool_none _
  | .bl p, .bl q => by
    intro A x y u w p1 p2 h k r1 r2 hu
    cases (show x = .bl _ from h)
    cases r1
    cases (show y = .bl _ from k)
    cases r2
    exact RcAt.bool_bool _ _
  | .bl p, .int q => by
    intro A x y u w p1 p2 h k r1 r2 hu
    cases (show x = .bl _ from h)
    cases r1
    cases (show y = .int _ from k)
    obtain ⟨t2, rfl⟩ := r2
    exact RcAt.bool_int _ _ t2
  | .bl p, .str q => by
    intro A x y u w p1 p2 h k r1 r2 hu
    cases (show x = .bl _ from h)
    cases r1
    cases (show y = .str _ from k)
    obtain ⟨t2, rfl⟩ := r2
    exact RcAt.bool_str _ _ t2
  | .bl p, .tup l => by
    intro A x y u w p1 p2 h k r1 r2 hu
    cases (show x = .bl _ from h)
    cases r1
    obtain ⟨_, _, _, rfl, rfl, hl, _⟩ := at_tup I k r2
    exact RcAt.bool_tuple _ hl (by omega)
  | .bl p, .lst l => by
    intro A x y u w p1 p2 h k r1 r2 hu
    cases (show x = .bl _ from h)
    cases r1
    obtain ⟨_, _, _, rfl, rfl, hl, _⟩ := at_lst I k r2
    exact RcAt.bool_list _ hl (by omega)
  | .int p, .non => by
    intro A x y u w p1 p2 h k r1 r2 hu
    cases (show x = .int _ from h)
    obtain ⟨t1, rfl⟩ := r1
    cases (show y = .non from k)
    cases r2
    exact RcAt.int_none _ t1
  | .int p, .bl q => by
    intro A x y u w p1 p2 h k r1 r2 hu
    cases (show x = .int _ from h)
    obtain ⟨t1, rfl⟩ := r1
    cases (show y = .bl _ from k)
    cases r2
    exact RcAt.int_bool _ t1 _
  | .int p, .int q => by
    intro A x y u w p1 p2 h k r1 r2 hu
    cases (show x = .int _ from h)
    obtain ⟨t1, rfl⟩ := r1
    cases (show y = .int _ from k)
    obtain ⟨t2, rfl⟩ := r2
    exact RcAt.int_int _ t1 _ t2
  | .int p, .str q => by
    intro A x y u w p1 p2 h k r1 r2 hu
    cases (show x = .int _ from h)
    obtain ⟨t1, rfl⟩ := r1
    cases (show y = .str _ from k)
    obtain ⟨t2, rfl⟩ := r2
    exact RcAt.int_str _ t1 _ t2
  | .int p, .tup l => by
    intro A x y u w p1 p2 h k r1 r2 hu
    cases (show x = .int _ from h)
    obtain ⟨t1, rfl⟩ := r1
    obtain ⟨_, _, _, rfl, rfl, hl, _⟩ := at_tup I k r2
    exact RcAt.int_tuple _ t1 hl (by omega)
  | .int p, .lst l => by
    intro A x y u w p1 p2 h k r1 r2 hu
    cases (show x = .int _ from h)
    obtain ⟨t1, rfl⟩ := r1
    obtain ⟨_, _, _, rfl, rfl, hl, _⟩ := at_lst I k r2
    exact RcAt.int_list _ t1 hl (by omega)
  | .str p, .non => by
    intro A x y u w p1 p2 h k r1 r2 hu
    cases (show x = .str _ from h)
    obtain ⟨t1, rfl⟩ := r1
    cases (show y = .non from k)
    cases r2
    exact RcAt.str_none _ t1
  | .str p, .bl q => by
    intro A x y u w p1 p2 h k r1 r2 hu
    cases (show x = .str _ from h)
    obtain ⟨t1, rfl⟩ := r1
    cases (show y = .bl _ from k)
    cases r2
    exact RcAt.str_bool _ t1 _
  | .str p, .int q => by
    intro A x y u w p1 p2 h k r1 r2 hu
    cases (show x = .str _ from h)
    obtain ⟨t1, rfl⟩ := r1
    cases (show y = .int _ from k)
    obtain ⟨t2, rfl⟩ := r2
    exact RcAt.str_int _ t1 _ t2
  | .str p, .str q => by
    intro A x y u w p1 p2 h k r1 r2 hu
    cases (show x = .str _ from h)
    obtain ⟨t1, rfl⟩ := r1
    cases (show y = .str _ from k)
    obtain ⟨t2, rfl⟩ := r2
    show RcAt A s _ _ (p == q)
    rw [← mkS_beq]
    exact RcAt.str_str _ t1 _ t2
  | .str p, .tup l => by
    intro A x y u w p1 p2 h k r1 r2 hu
    cases (show x = .str _ from h)
    obtain ⟨t1, rfl⟩ := r1
    obtain ⟨_, _, _, rfl, rfl, hl, _⟩ := at_tup I k r2
    exact RcAt.str_tuple _ t1 hl (by omega)
  | .str p, .lst l => by
    intro A x y u w p1 p2 h k r1 r2 hu
    cases (show x = .str _ from h)
    obtain ⟨t1, rfl⟩ := r1
    obtain ⟨_, _, _, rfl, rfl, hl, _⟩ := at_lst I k r2
    exact RcAt.str_list _ t1 hl (by omega)
  | .tup l, .non => by
    intro A x y u w p1 p2 h k r1 r2 hu
    cases (show y = .non from k)
    cases r2
    obtain ⟨_, _, _, rfl, rfl, hl, _⟩ := at_tup I h r1
    exact RcAt.tuple_none hl (by omega)
  | .tup l, .bl q => by
    intro A x y u w p1 p2 h k r1 r2 hu
    cases (show y = .bl _ from k)
    cases r2
    obtain ⟨_, _, _, rfl, rfl, hl, _⟩ := at_tup I h r1
    exact RcAt.tuple_bool _ hl (by omega)
  | .tup l, .int q => by
    intro A x y u w p1 p2 h k r1 r2 hu
    cases (show y = .int _ from k)
    obtain ⟨t2, rfl⟩ := r2
    obtain ⟨_, _, _, rfl, rfl, hl, _⟩ := at_tup I h r1
    exact RcAt.tuple_int _ t2 hl (by omega)
  | .tup l, .str q => by
    intro A x y u w p1 p2 h k r1 r2 hu
    cases (show y = .str _ from k)
    obtain ⟨t2, rfl⟩ := r2
    obtain ⟨_, _, _, rfl, rfl, hl, _⟩ := at_tup I h r1
    exact RcAt.tuple_str _ t2 hl (by omega)
  | .lst l, .non => by
    intro A x y u w p1 p2 h k r1 r2 hu
    cases (show y = .non from k)
    cases r2
    obtain ⟨_, _, _, rfl, rfl, hl, _⟩ := at_lst I h r1
    exact RcAt.list_none hl (by omega)
  | .lst l, .bl q => by
    intro A x y u w p1 p2 h k r1 r2 hu
    cases (show y = .bl _ from k)
    cases r2
    obtain ⟨_, _, _, rfl, rfl, hl, _⟩ := at_lst I h r1
    exact RcAt.list_bool _ hl (by omega)
  | .lst l, .int q => by
    intro A x y u w p1 p2 h k r1 r2 hu
    cases (show y = .int _ from k)
    obtain ⟨t2, rfl⟩ := r2
    obtain ⟨_, _, _, rfl, rfl, hl, _⟩ := at_lst I h r1
    exact RcAt.list_int _ t2 hl (by omega)
  | .lst l, .str q => by
    intro A x y u w p1 p2 h k r1 r2 hu
    cases (show y = .str _ from k)
    obtain ⟨t2, rfl⟩ := r2
    obtain ⟨_, _, _, rfl, rfl, hl, _⟩ := at_lst I h r1
    exact RcAt.list_str _ t2 hl (by omega)
  | .tup l, .lst m => by
    intro A x y u w p1 p2 h k r1 r2 hu
    obtain ⟨_, _, _, rfl, rfl, hl, _⟩ := at_tup I h r1
    obtain ⟨_, _, _, rfl, rfl, hm, _⟩ := at_lst I k r2
    exact RcAt.tuple_list hl hm (by omega)
  | .lst l, .tup m => by
    intro A x y u w p1 p2 h k r1 r2 hu
    obtain ⟨_, _, _, rfl, rfl, hl, _⟩ := at_lst I h r1
    obtain ⟨_, _, _, rfl, rfl, hm, _⟩ := at_tup I k r2
    exact RcAt.list_tuple hl hm (by omega)
  | .tup l, .tup m => by
    intro A x y u w p1 p2 h k r1 r2 hu
    obtain ⟨a, vs, its, ea, eu, hl, v1, q1, n1⟩ := at_tup I h r1
    obtain ⟨b, ws, its2, eb, ew, hm, v2, q2, n2⟩ := at_tup I k r2
    rw [eu, ew]
    show RcAt A s _ _ (D.eqvs l m)
    rw [← eqvs_eq]
    simp only [D.dep] at hu
    have hA : A.units < cLine := by omega
    have z := RcAt.tuples (e := eqAtJ l m) hl hm hA fun j j1 j2 => by
      have := eqAt_ds I l m A.in1 vs ws its its2 p1 p2 q1 q2 v1 v2 (by rw [in1_units]; omega) j (by simpa using j1) (by simpa using j2)
      simpa using this
    rw [List.size_toArray, List.size_toArray, ← n1, ← n2] at z
    exact z
  | .lst l, .lst m => by
    intro A x y u w p1 p2 h k r1 r2 hu
    obtain ⟨a, vs, its, ea, eu, hl, v1, q1, n1⟩ := at_lst I h r1
    obtain ⟨b, ws, its2, eb, ew, hm, v2, q2, n2⟩ := at_lst I k r2
    rw [eu, ew]
    show RcAt A s _ _ (D.eqvs l m)
    rw [← eqvs_eq]
    simp only [D.dep] at hu
    have hA : A.units < cLine := by omega
    by_cases hn : its.length = its2.length
    · have z := RcAt.lists (e := eqAtJ l m) hl hm (by simpa using hn) hA fun j j1 j2 => by
        have := eqAt_ds I l m A.in1 vs ws its its2 p1 p2 q1 q2 v1 v2 (by rw [in1_units]; omega) j (by simpa using j1) (by simpa using j2)
        simpa using this
      rw [List.size_toArray, ← n1] at z
      rw [show l.length = m.length by omega, beq_self_eq_true, Bool.and_true, Nat.min_self, ← show l.length = m.length by omega]
      exact z
    · rw [beq_eq_false_iff_ne.mpr (by omega : l.length ≠ m.length), Bool.and_false]
      exact RcAt.lists_lengths hl hm (by simpa using hn) hA
  | .dct _ _, _ => by intro A x y u w p1 p2 h k r1 r2 hu; cases p1
  | .opq _, _ => by intro A x y u w p1 p2 h k r1 r2 hu; cases p1
  | .exc _ _, _ => by intro A x y u w p1 p2 h k r1 r2 hu; cases p1
  | .fd _ _ _, _ => by intro A x y u w p1 p2 h k r1 r2 hu; cases p1
  | .fz _, _ => by intro A x y u w p1 p2 h k r1 r2 hu; cases p1
  | _, .dct _ _ => by intro A x y u w p1 p2 h k r1 r2 hu; cases p2
  | _, .opq _ => by intro A x y u w p1 p2 h k r1 r2 hu; cases p2
  | _, .exc _ _ => by intro A x y u w p1 p2 h k r1 r2 hu; cases p2
  | _, .fd _ _ _ => by intro A x y u w p1 p2 h k r1 r2 hu; cases p2
  | _, .fz _ => by intro A x y u w p1 p2 h k r1 r2 hu; cases p2
theorem rcNe_d (I : Inv X pins σ H s) : ∀ (a b : D), ∀ (A : Around) (x y : V) (u w : Value), a.plain = true → b.plain = true → Rep H a x → Rep H b y → RelV x u → RelV y w → A.units + min a.dep b.dep < cLine → RcNeAt A s u w (!(D.eqv a b))
  | .non, .non => by
    intro A x y u w p1 p2 h k r1 r2 hu
    cases (show x = .non from h)
    cases r1
    cases (show y = .non from k)
    cases r2
    exact RcNeAt.none_none
  | .non, .bl q => by
    intro A x y u w p1 p2 h k r1 r2 hu
    cases (show x = .non from h)
    cases r1
    cases (show y = .bl _ from k)
    cases r2
    exact RcNeAt.none_bool _
  | .non, .int q => by
    intro A x y u w p1 p2 h k r1 r2 hu
    cases (show x = .non from h)
    cases r1
    cases (show y = .int _ from k)
    obtain ⟨t2, rfl⟩ := r2
    exact RcNeAt.none_int _ t2
  | .non, .str q => by
    intro A x y u w p1 p2 h k r1 r2 hu
    cases (show x = .non from h)
    cases r1
    cases (show y = .str _ from k)
    obtain ⟨t2, rfl⟩ := r2
    exact RcNeAt.none_str _ t2
  | .non, .tup l => by
    intro A x y u w p1 p2 h k r1 r2 hu
    cases (show x = .non from h)
    cases r1
    obtain ⟨_, _, _, rfl, rfl, hl, _⟩ := at_tup I k r2
    exact RcNeAt.none_tuple hl (by omega)
  | .non, .lst l => by
    intro A x y u w p1 p2 h k r1 r2 hu
    cases (show x = .non from h)
    cases r1
    obtain ⟨_, _, _, rfl, rfl, hl, _⟩ := at_lst I k r2
    exact RcNeAt.none_list hl (by omega)
  | .bl p, .non => by
    intro A x y u w p1 p2 h k r1 r2 hu
    cases (show x = .bl _ from h)
    cases r1
    cases (show y = .non from k)
    cases r2
    exact RcNeAt.bool_none _
  | .bl p, .bl q => by
    intro A x y u w p1 p2 h k r1 r2 hu
    cases (show x = .bl _ from h)
    cases r1
    cases (show y = .bl _ from k)
    cases r2
    exact RcNeAt.bool_bool _ _
  | .bl p, .int q => by
    intro A x y u w p1 p2 h k r1 r2 hu
    cases (show x = .bl _ from h)
    cases r1
    cases (show y = .int _ from k)
    obtain ⟨t2, rfl⟩ := r2
    exact RcNeAt.bool_int _ _ t2
  | .bl p, .str q => by
    intro A x y u w p1 p2 h k r1 r2 hu
    cases (show x = .bl _ from h)
    cases r1
    cases (show y = .str _ from k)
    obtain ⟨t2, rfl⟩ := r2
    exact RcNeAt.bool_str _ _ t2
  | .bl p, .tup l => by
    intro A x y u w p1 p2 h k r1 r2 hu
    cases (show x = .bl _ from h)
    cases r1
    obtain ⟨_, _, _, rfl, rfl, hl, _⟩ := at_tup I k r2
    exact RcNeAt.bool_tuple _ hl (by omega)
  | .bl p, .lst l => by
    intro A x y u w p1 p2 h k r1 r2 hu
    cases (show x = .bl _ from h)
    cases r1
    obtain ⟨_, _, _, rfl, rfl, hl, _⟩ := at_lst I k r2
    exact RcNeAt.bool_list _ hl (by omega)
  | .int p, .non => by
    intro A x y u w p1 p2 h k r1 r2 hu
    cases (show x = .int _ from h)
    obtain ⟨t1, rfl⟩ := r1
    cases (show y = .non from k)
    cases r2
    exact RcNeAt.int_none _ t1
  | .int p, .bl q => by
    intro A x y u w p1 p2 h k r1 r2 hu
    cases (show x = .int _ from h)
    obtain ⟨t1, rfl⟩ := r1
    cases (show y = .bl _ from k)
    cases r2
    exact RcNeAt.int_bool _ t1 _
  | .int p, .int q => by
    intro A x y u w p1 p2 h k r1 r2 hu
    cases (show x = .int _ from h)
    obtain ⟨t1, rfl⟩ := r1
    cases (show y = .int _ from k)
    obtain ⟨t2, rfl⟩ := r2
    exact RcNeAt.int_int _ t1 _ t2
  | .int p, .str q => by
    intro A x y u w p1 p2 h k r1 r2 hu
    cases (show x = .int _ from h)
    obtain ⟨t1, rfl⟩ := r1
    cases (show y = .str _ from k)
    obtain ⟨t2, rfl⟩ := r2
    exact RcNeAt.int_str _ t1 _ t2
  | .int p, .tup l => by
    intro A x y u w p1 p2 h k r1 r2 hu
    cases (show x = .int _ from h)
    obtain ⟨t1, rfl⟩ := r1
    obtain ⟨_, _, _, rfl, rfl, hl, _⟩ := at_tup I k r2
    exact RcNeAt.int_tuple _ t1 hl (by omega)
  | .int p, .lst l => by
    intro A x y u w p1 p2 h k r1 r2 hu
    cases (show x = .int _ from h)
    obtain ⟨t1, rfl⟩ := r1
    obtain ⟨_, _, _, rfl, rfl, hl, _⟩ := at_lst I k r2
    exact RcNeAt.int_list _ t1 hl (by omega)
  | .str p, .non => by
    intro A x y u w p1 p2 h k r1 r2 hu
    cases (show x = .str _ from h)
    obtain ⟨t1, rfl⟩ := r1
    cases (show y = .non from k)
    cases r2
    exact RcNeAt.str_none _ t1
  | .str p, .bl q => by
    intro A x y u w p1 p2 h k r1 r2 hu
    cases (show x = .str _ from h)
    obtain ⟨t1, rfl⟩ := r1
    cases (show y = .bl _ from k)
    cases r2
    exact RcNeAt.str_bool _ t1 _
  | .str p, .int q => by
    intro A x y u w p1 p2 h k r1 r2 hu
    cases (show x = .str _ from h)
    obtain ⟨t1, rfl⟩ := r1
    cases (show y = .int _ from k)
    obtain ⟨t2, rfl⟩ := r2
    exact RcNeAt.str_int _ t1 _ t2
  | .str p, .str q => by
    intro A x y u w p1 p2 h k r1 r2 hu
    cases (show x = .str _ from h)
    obtain ⟨t1, rfl⟩ := r1
    cases (show y = .str _ from k)
    obtain ⟨t2, rfl⟩ := r2
    show RcNeAt A s _ _ (!(p == q))
    rw [← mkS_beq]
    exact RcNeAt.str_str _ t1 _ t2
  | .str p, .tup l => by
    intro A x y u w p1 p2 h k r1 r2 hu
    cases (show x = .str _ from h)
    obtain ⟨t1, rfl⟩ := r1
    obtain ⟨_, _, _, rfl, rfl, hl, _⟩ := at_tup I k r2
    exact RcNeAt.str_tuple _ t1 hl (by omega)
  | .str p, .lst l => by
    intro A x y u w p1 p2 h k r1 r2 hu
    cases (show x = .str _ from h)
    obtain ⟨t1, rfl⟩ := r1
    obtain ⟨_, _, _, rfl, rfl, hl, _⟩ := at_lst I k r2
    exact RcNeAt.str_list _ t1 hl (by omega)
  | .tup l, .non => by
    intro A x y u w p1 p2 h k r1 r2 hu
    cases (show y = .non from k)
    cases r2
    obtain ⟨_, _, _, rfl, rfl, hl, _⟩ := at_tup I h r1
    exact RcNeAt.tuple_none hl (by omega)
  | .tup l, .bl q => by
    intro A x y u w p1 p2 h k r1 r2 hu
    cases (show y = .bl _ from k)
    cases r2
    obtain ⟨_, _, _, rfl, rfl, hl, _⟩ := at_tup I h r1
    exact RcNeAt.tuple_bool _ hl (by omega)
  | .tup l, .int q => by
    intro A x y u w p1 p2 h k r1 r2 hu
    cases (show y = .int _ from k)
    obtain ⟨t2, rfl⟩ := r2
    obtain ⟨_, _, _, rfl, rfl, hl, _⟩ := at_tup I h r1
    exact RcNeAt.tuple_int _ t2 hl (by omega)
  | .tup l, .str q => by
    intro A x y u w p1 p2 h k r1 r2 hu
    cases (show y = .str _ from k)
    obtain ⟨t2, rfl⟩ := r2
    obtain ⟨_, _, _, rfl, rfl, hl, _⟩ := at_tup I h r1
    exact RcNeAt.tuple_str _ t2 hl (by omega)
  | .lst l, .non => by
    intro A x y u w p1 p2 h k r1 r2 hu
    cases (show y = .non from k)
    cases r2
    obtain ⟨_, _, _, rfl, rfl, hl, _⟩ := at_lst I h r1
    exact RcNeAt.list_none hl (by omega)
  | .lst l, .bl q => by
    intro A x y u w p1 p2 h k r1 r2 hu
    cases (show y = .bl _ from k)
    cases r2
    obtain ⟨_, _, _, rfl, rfl, hl, _⟩ := at_lst I h r1
    exact RcNeAt.list_bool _ hl (by omega)
  | .lst l, .int q => by
    intro A x y u w p1 p2 h k r1 r2 hu
    cases (show y = .int _ from k)
    obtain ⟨t2, rfl⟩ := r2
    obtain ⟨_, _, _, rfl, rfl, hl, _⟩ := at_lst I h r1
    exact RcNeAt.list_int _ t2 hl (by omega)
  | .lst l, .str q => by
    intro A x y u w p1 p2 h k r1 r2 hu
    cases (show y = .str _ from k)
    obtain ⟨t2, rfl⟩ := r2
    obtain ⟨_, _, _, rfl, rfl, hl, _⟩ := at_lst I h r1
    exact RcNeAt.list_str _ t2 hl (by omega)
  | .tup l, .lst m => by
    intro A x y u w p1 p2 h k r1 r2 hu
    obtain ⟨_, _, _, rfl, rfl, hl, _⟩ := at_tup I h r1
    obtain ⟨_, _, _, rfl, rfl, hm, _⟩ := at_lst I k r2
    exact RcNeAt.tuple_list hl hm (by omega)
  | .lst l, .tup m => by
    intro A x y u w p1 p2 h k r1 r2 hu
    obtain ⟨_, _, _, rfl, rfl, hl, _⟩ := at_lst I h r1
    obtain ⟨_, _, _, rfl, rfl, hm, _⟩ := at_tup I k r2
    exact RcNeAt.list_tuple hl hm (by omega)
  | .tup l, .tup m => by
    intro A x y u w p1 p2 h k r1 r2 hu
    obtain ⟨a, vs, its, ea, eu, hl, v1, q1, n1⟩ := at_tup I h r1
    obtain ⟨b, ws, its2, eb, ew, hm, v2, q2, n2⟩ := at_tup I k r2
    rw [eu, ew]
    show RcNeAt A s _ _ (!(D.eqvs l m))
    rw [← eqvs_eq]
    simp only [D.dep] at hu
    have hA : A.units < cLine := by omega
    have z := RcNeAt.tuples (e := eqAtJ l m) hl hm hA fun j j1 j2 => by
      have := eqAt_ds I l m A.in1 vs ws its its2 p1 p2 q1 q2 v1 v2 (by rw [in1_units]; omega) j (by simpa using j1) (by simpa using j2)
      simpa using this
    rw [List.size_toArray, List.size_toArray, ← n1, ← n2] at z
    exact z
  | .lst l, .lst m => by
    intro A x y u w p1 p2 h k r1 r2 hu
    obtain ⟨a, vs, its, ea, eu, hl, v1, q1, n1⟩ := at_lst I h r1
    obtain ⟨b, ws, its2, eb, ew, hm, v2, q2, n2⟩ := at_lst I k r2
    rw [eu, ew]
    show RcNeAt A s _ _ (!(D.eqvs l m))
    rw [← eqvs_eq]
    simp only [D.dep] at hu
    have hA : A.units < cLine := by omega
    by_cases hn : its.length = its2.length
    · have z := RcNeAt.lists (e := eqAtJ l m) hl hm (by simpa using hn) hA fun j j1 j2 => by
        have := eqAt_ds I l m A.in1 vs ws its its2 p1 p2 q1 q2 v1 v2 (by rw [in1_units]; omega) j (by simpa using j1) (by simpa using j2)
        simpa using this
      rw [List.size_toArray, ← n1] at z
      rw [show l.length = m.length by omega, beq_self_eq_true, Bool.and_true, Nat.min_self, ← show l.length = m.length by omega]
      exact z
    · rw [beq_eq_false_iff_ne.mpr (by omega : l.length ≠ m.length), Bool.and_false]
      exact RcNeAt.lists_lengths hl hm (by simpa using hn) hA
  | .dct _ _, _ => by intro A x y u w p1 p2 h k r1 r2 hu; cases p1
  | .opq _, _ => by intro A x y u w p1 p2 h k r1 r2 hu; cases p1
  | .exc _ _, _ => by intro A x y u w p1 p2 h k r1 r2 hu; cases p1
  | .fd _ _ _, _ => by intro A x y u w p1 p2 h k r1 r2 hu; cases p1
  | .fz _, _ => by intro A x y u w p1 p2 h k r1 r2 hu; cases p1
  | _, .dct _ _ => by intro A x y u w p1 p2 h k r1 r2 hu; cases p2
  | _, .opq _ => by intro A x y u w p1 p2 h k r1 r2 hu; cases p2
  | _, .exc _ _ => by intro A x y u w p1 p2 h k r1 r2 hu; cases p2
  | _, .fd _ _ _ => by intro A x y u w p1 p2 h k r1 r2 hu; cases p2
  | _, .fz _ => by intro A x y u w p1 p2 h k r1 r2 hu; cases p2
end
def eqD (a b : D) : Option Bool := if a.plain = true ∧ b.plain = true ∧ min a.dep b.dep ≤ 60 then some (D.eqv a b) else none
def neD (a b : D) : Option Bool := (eqD a b).map not
def rEqM : R2 := fun x y H Q => ∃ a b, Rep H a x ∧ Rep H b y ∧ a.plain = true ∧ b.plain = true ∧ min a.dep b.dep ≤ 60 ∧ Q (.bl (D.eqv a b)) H
def rNeM : R2 := fun x y H Q => ∃ a b, Rep H a x ∧ Rep H b y ∧ a.plain = true ∧ b.plain = true ∧ min a.dep b.dep ≤ 60 ∧ Q (.bl (!D.eqv a b)) H
theorem op_eqM {X : Cx} (hu : X.A.units + 64 < cLine) : OpR X (compareOp .Eq) rEqM := by
  intro pins s σ H x y v u Q I rx ry h
  obtain ⟨a, b, ha, hb, p1, p2, dp, q⟩ := h
  exact rcEq_d I a b X.A x y v u p1 p2 ha hb rx ry (by omega) X.prog X.w X.xe _ ⟨.bl _, H, I, rfl, q⟩
theorem op_neM {X : Cx} (hu : X.A.units + 64 < cLine) : OpR X (compareOp .NotEq) rNeM := by
  intro pins s σ H x y v u Q I rx ry h
  obtain ⟨a, b, ha, hb, p1, p2, dp, q⟩ := h
  exact rcNe_d I a b X.A x y v u p1 p2 ha hb rx ry (by omega) X.prog X.w X.xe _ ⟨.bl _, H, I, rfl, q⟩
theorem o_eq : Op2B rEqM eqD := fun H x y a b c Q ra rb e q => by
  unfold eqD at e
  split at e
  · cases e
    rename_i h
    exact ⟨a, b, ra, rb, h.1, h.2.1, h.2.2, q⟩
  · cases e
theorem o_ne : Op2B rNeM neD := fun H x y a b c Q ra rb e q => by
  unfold neD eqD at e
  split at e
  · cases e
    rename_i h
    exact ⟨a, b, ra, rb, h.1, h.2.1, h.2.2, q⟩
  · cases e
end VL

namespace VL
open PySem L2
variable [EC]

theorem mkS_app (a b : List Nat) : mkS a ++ mkS b = mkS (a ++ b) := by
  show PySem.Str.append (mkS a) (mkS b) = _
  simp [mkS, PySem.Str.append]
/-! whole numbers, texts -/
def addD : D → D → Option D
  | .int a, .int b => some (.int (a + b))
  | .str a, .str b => if a.length + b.length ≤ 16777216 then some (.str (a ++ b)) else none
  | _, _ => none
def subD : D → D → Option D | .int a, .int b => some (.int (a - b)) | _, _ => none
def mulD : D → D → Option D
  | .int a, .int b => if (-18446744073709551616 < a ∧ a < 18446744073709551616) ∨ (-18446744073709551616 < b ∧ b < 18446744073709551616) then some (.int (a * b)) else none
  | _, _ => none
def modD : D → D → Option D | .int a, .int b => if 0 < b then some (.int (a % b)) else none | _, _ => none
def fdivD : D → D → Option D | .int a, .int b => if 0 < b ∧ b < 1073741824 then some (.int (a / b)) else none | _, _ => none
def powD : D → D → Option D | .int a, .int b => if 0 ≤ b ∧ b ≤ 1000000 ∧ a.natAbs < 18446744073709551616 then some (.int (a ^ b.toNat)) else none | _, _ => none
def negD : D → Option D | .int a => some (.int (-a)) | _ => none
def rAddA : R2 := fun x y H Q => rI0 (fun i j => .int (i + j)) x y H Q ∨ (∃ i j, x = .str i ∧ y = .str j ∧ i.length + j.length ≤ sizeLine ∧ Q (.str (i ++ j)) H)
theorem op_addA {X : Cx} : OpR X (binaryOp .Add) rAddA := op_add.or op_add_str
theorem o_add : Op2C rAddA addD := fun G H x y a b c Q sm ra rb e q => by
  cases a <;> cases b <;> try (cases e; done)
  · cases e
    exact .inl ⟨_, _, ra, rb, q _ rfl⟩
  · simp only [addD] at e
    split at e
    · cases e
      rename_i i j h
      refine .inr ⟨_, _, ra, rb, by rw [mkS_len, mkS_len, sizeLine_eq]; exact h, ?_⟩
      rw [mkS_app]
      exact q _ rfl
    · cases e
theorem o_sub : Op2C (rI0 fun i j => .int (i - j)) subD := fun G H x y a b c Q sm ra rb e q => by
  cases a <;> cases b <;> try (cases e; done)
  cases e
  exact ⟨_, _, ra, rb, q _ rfl⟩
theorem o_mul : Op2C (rI CMul fun i j => .int (i * j)) mulD := fun G H x y a b c Q sm ra rb e q => by
  cases a <;> cases b <;> try (cases e; done)
  simp only [mulD] at e
  split at e
  · cases e
    rename_i i j h
    exact ⟨_, _, ra, rb, h, q _ rfl⟩
  · cases e
theorem o_mod : Op2C (rI (fun _ j => 0 < j) fun i j => .int (i % j)) modD := fun G H x y a b c Q sm ra rb e q => by
  cases a <;> cases b <;> try (cases e; done)
  simp only [modD] at e
  split at e
  · cases e
    rename_i i j h
    exact ⟨_, _, ra, rb, h, q _ rfl⟩
  · cases e
theorem o_fdiv : Op2C (rI CDiv fun i j => .int (i / j)) fdivD := fun G H x y a b c Q sm ra rb e q => by
  cases a <;> cases b <;> try (cases e; done)
  simp only [fdivD] at e
  split at e
  · cases e
    rename_i i j h
    exact ⟨_, _, ra, rb, h, q _ rfl⟩
  · cases e
theorem o_pow : Op2C (rI CPow fun i j => .int (i ^ j.toNat)) powD := fun G H x y a b c Q sm ra rb e q => by
  cases a <;> cases b <;> try (cases e; done)
  simp only [powD] at e
  split at e
  · cases e
    rename_i i j h
    exact ⟨_, _, ra, rb, h, q _ rfl⟩
  · cases e
theorem o_neg : Op1C (rU fun i => .int (-i)) negD := fun G H x a c Q sm ra e q => by
  cases a <;> try (cases e; done)
  cases e
  exact ⟨_, ra, q _ rfl⟩
/-! comparisons -/
def ltD : D → D → Option Bool | .int a, .int b => some (decide (a < b)) | .str a, .str b => some (decide (a < b)) | _, _ => none
def leD : D → D → Option Bool | .int a, .int b => some (decide (a ≤ b)) | _, _ => none
def gtD : D → D → Option Bool | .int a, .int b => some (decide (b < a)) | _, _ => none
def geD : D → D → Option Bool | .int a, .int b => some (decide (b ≤ a)) | _, _ => none
def rLtA : R2 := fun x y H Q => rI0 (fun i j => .bl (decide (i < j))) x y H Q ∨ (∃ i j, x = .str i ∧ y = .str j ∧ Q (.bl (decide (i.cps.toList < j.cps.toList))) H)
theorem op_ltA {X : Cx} : OpR X (compareOp .Lt) rLtA := op_lt.or op_lt_str
theorem o_lt : Op2B rLtA ltD := fun H x y a b c Q ra rb e q => by
  cases a <;> cases b <;> try (cases e; done)
  · cases e; exact .inl ⟨_, _, ra, rb, q⟩
  · cases e
    refine .inr ⟨_, _, ra, rb, ?_⟩
    rw [mkS_cps, mkS_cps]
    exact q
theorem o_gt : Op2B (rI0 fun i j => .bl (decide (j < i))) gtD := fun H x y a b c Q ra rb e q => by
  cases a <;> cases b <;> try (cases e; done)
  cases e; exact ⟨_, _, ra, rb, q⟩
theorem o_ge : Op2B (rI0 fun i j => .bl (decide (j ≤ i))) geD := fun H x y a b c Q ra rb e q => by
  cases a <;> cases b <;> try (cases e; done)
  cases e; exact ⟨_, _, ra, rb, q⟩
def isNoneD : D → Option Bool | .non => some true | .opq _ => none | _ => some false
theorem isNone_ok {H : Hp} {a : D} {x : V} {c : Bool} (ra : Rep H a x) (e : isNoneD a = some c) : decide (x = .non) = c := by
  cases a with
  | non => cases e; rw [show x = .non from ra]; rfl
  | bl _ => cases e; rw [show x = .bl _ from ra]; rfl
  | int _ => cases e; rw [show x = .int _ from ra]; rfl
  | str _ => cases e; rw [show x = .str _ from ra]; rfl
  | tup _ => cases e; obtain ⟨_, _, e, _⟩ := ra; rw [e]; rfl
  | lst _ => cases e; obtain ⟨_, _, e, _⟩ := ra; rw [e]; rfl
  | dct k _ =>
    cases e
    cases k with
    | false => obtain ⟨_, _, e, _⟩ := ra; rw [e]; rfl
    | true => obtain ⟨_, _, _, e, _⟩ := ra; rw [e]; rfl
  | opq _ => cases e
  | exc _ _ => cases e; obtain ⟨_, _, _, e, _⟩ := ra; rw [e]; rfl
  | fd _ _ _ => cases e; obtain ⟨_, e, _⟩ := ra; rw [e]; rfl
  | fz _ => cases e; obtain ⟨_, _, _, e, _⟩ := ra; rw [e]; rfl
theorem o_notN : Op2B (fun x y H Q => y = .non ∧ Q (.bl (!decide (x = .non))) H) (fun a b => match b with | .non => (isNoneD a).map not | _ => none) := fun H x y a b c Q ra rb e q => by
  cases b <;> try (cases e; done)
  refine ⟨rb, ?_⟩
  cases e2 : isNoneD a with
  | none => simp [e2] at e
  | some k =>
    simp [e2] at e
    rw [isNone_ok ra e2, e, Bool.not_not]; exact q
/-! in -/
def D.flat : D → Bool
  | .non => true | .bl _ => true | .int _ => true | .str _ => true | _ => false
theorem flat_ok {H : Hp} : ∀ {a : D} {x : V}, a.flat = true → Rep H a x → flatV x = true
  | .non, x, _, r => by rw [show x = .non from r]; rfl
  | .bl b, x, _, r => by rw [show x = .bl b from r]; rfl
  | .int b, x, _, r => by rw [show x = .int b from r]; rfl
  | .str b, x, _, r => by rw [show x = .str (mkS b) from r]; rfl
  | .tup _, x, f, _ => by cases f
  | .lst _, x, f, _ => by cases f
  | .dct _ _, x, f, _ => by cases f
  | .opq _, x, f, _ => by cases f
  | .exc _ _, x, f, _ => by cases f
  | .fd _ _ _, x, f, _ => by cases f
  | .fz _, x, f, _ => by cases f
theorem eqV_ok' {H : Hp} : ∀ (a b : D), ∀ (x y : V), a.flat = true → b.flat = true → Rep H a x → Rep H b y → eqV x y = D.eqv a b
  | .non, .non => by intro x y _ _ r q; rw [show x = .non from r, show y = .non from q]; rfl
  | .non, .bl b => by intro x y _ _ r q; rw [show x = .non from r, show y = .bl b from q]; rfl
  | .non, .int b => by intro x y _ _ r q; rw [show x = .non from r, show y = .int b from q]; rfl
  | .non, .str b => by intro x y _ _ r q; rw [show x = .non from r, show y = .str (mkS b) from q]; rfl
  | .bl a, .non => by intro x y _ _ r q; rw [show x = .bl a from r, show y = .non from q]; rfl
  | .bl a, .bl b => by intro x y _ _ r q; rw [show x = .bl a from r, show y = .bl b from q]; rfl
  | .bl a, .int b => by intro x y _ _ r q; rw [show x = .bl a from r, show y = .int b from q]; rfl
  | .bl a, .str b => by intro x y _ _ r q; rw [show x = .bl a from r, show y = .str (mkS b) from q]; rfl
  | .int a, .non => by intro x y _ _ r q; rw [show x = .int a from r, show y = .non from q]; rfl
  | .int a, .bl b => by intro x y _ _ r q; rw [show x = .int a from r, show y = .bl b from q]; rfl
  | .int a, .int b => by intro x y _ _ r q; rw [show x = .int a from r, show y = .int b from q]; rfl
  | .int a, .str b => by intro x y _ _ r q; rw [show x = .int a from r, show y = .str (mkS b) from q]; rfl
  | .str a, .non => by intro x y _ _ r q; rw [show x = .str (mkS a) from r, show y = .non from q]; rfl
  | .str a, .bl b => by intro x y _ _ r q; rw [show x = .str (mkS a) from r, show y = .bl b from q]; rfl
  | .str a, .int b => by intro x y _ _ r q; rw [show x = .str (mkS a) from r, show y = .int b from q]; rfl
  | .str a, .str b => by intro x y _ _ r q; rw [show x = .str (mkS a) from r, show y = .str (mkS b) from q]; exact mkS_beq a b
  | .tup _, _ => by intro x y f g; cases f
  | .lst _, _ => by intro x y f g; cases f
  | .dct _ _, _ => by intro x y f g; cases f
  | .opq _, _ => by intro x y f g; cases f
  | .exc _ _, _ => by intro x y f g; cases f
  | .fd _ _ _, _ => by intro x y f g; cases f
  | .fz _, _ => by intro x y f g; cases f
  | _, .tup _ => by intro x y f g; cases g
  | _, .lst _ => by intro x y f g; cases g
  | _, .dct _ _ => by intro x y f g; cases g
  | _, .opq _ => by intro x y f g; cases g
  | _, .exc _ _ => by intro x y f g; cases g
  | _, .fd _ _ _ => by intro x y f g; cases g
  | _, .fz _ => by intro x y f g; cases g
theorem eqV_ok {H : Hp} {a b : D} {x y : V} (f : a.flat = true) (g : b.flat = true) (r : Rep H a x) (q : Rep H b y) : eqV x y = D.eqv a b := eqV_ok' a b x y f g r q
theorem flats_ok {H : Hp} : ∀ {l : List D} {vs : List V}, l.all D.flat = true → Reps H l vs → vs.all flatV = true
  | [], _, _, h => by rw [show _ = [] from h]; rfl
  | d :: l, _, f, ⟨v, r, e, h, q⟩ => by
    subst e
    simp only [List.all_cons, Bool.and_eq_true] at f ⊢
    exact ⟨flat_ok f.1 h, flats_ok f.2 q⟩
theorem inV_ok {H : Hp} {a : D} {x : V} (f : a.flat = true) (r : Rep H a x) : ∀ {l : List D} {vs : List V}, l.all D.flat = true → Reps H l vs → inV x vs = l.any (fun d => D.eqv d a)
  | [], _, _, h => by rw [show _ = [] from h]; rfl
  | d :: l, _, g, ⟨v, q, e, h, k⟩ => by
    subst e
    simp only [List.all_cons, Bool.and_eq_true] at g
    have ih := inV_ok f r g.2 k
    unfold inV at ih ⊢
    rw [List.any_cons, List.any_cons, eqV_ok g.1 f h r, ih]
def inD (a : D) : D → Option Bool
  | .lst l => if a.flat = true ∧ l.all D.flat = true then some (l.any fun d => D.eqv d a) else none
  | .tup l => if a.flat = true ∧ l.all D.flat = true then some (l.any fun d => D.eqv d a) else none
  | .str z => match a with | .str [c] => some (decide (c ∈ z)) | _ => none
  | _ => none
def notInD (a b : D) : Option Bool := (inD a b).map not
def rNotInA (K : PySem.W.Frag) : R2 := fun x y H Q => rIn K true x y H Q ∨ (∃ (c : Nat) (z : Str), x = .str ⟨#[c]⟩ ∧ y = .str z ∧ Q (.bl (!decide (c ∈ z.cps.toList))) H)
theorem op_notInA {X : Cx} : OpR X (compareOp .NotIn) (rNotInA X.K) := op_notIn_seq.or op_notIn_sign
theorem in_cases {K : PySem.W.Frag} {H : Hp} {x y : V} {a b : D} {c : Bool} (ra : Rep H a x) (rb : Rep H b y) (e : inD a b = some c) :
    (∃ p xs, y = .ref p ∧ (SqL K H p xs ∨ SqT K H p xs) ∧ flatV x = true ∧ xs.all flatV = true ∧ inV x xs = c) ∨ ∃ (k : Nat) (z : Str), x = .str ⟨#[k]⟩ ∧ y = .str z ∧ decide (k ∈ z.cps.toList) = c := by
  cases b <;> try (cases e; done)
  · rename_i z
    cases a <;> try (cases e; done)
    rename_i w
    match w, e with
    | [k], e =>
      cases e
      exact .inr ⟨k, mkS z, ra, rb, by rw [mkS_cps]⟩
    | [], e => cases e
    | _ :: _ :: _, e => cases e
  · rename_i l
    simp only [inD] at e
    split at e
    · cases e
      rename_i h
      obtain ⟨p, xs, e, g, z, r⟩ := rb
      exact .inl ⟨p, xs, e, .inr (.inl (.inl g)), flat_ok h.1 ra, flats_ok h.2 r, inV_ok h.1 ra h.2 r⟩
    · cases e
  · rename_i l
    simp only [inD] at e
    split at e
    · cases e
      rename_i h
      obtain ⟨p, xs, e, g, z, r⟩ := rb
      exact .inl ⟨p, xs, e, .inl (.inl g), flat_ok h.1 ra, flats_ok h.2 r, inV_ok h.1 ra h.2 r⟩
    · cases e
theorem o_notIn {K : PySem.W.Frag} : Op2B (rNotInA K) notInD := fun H x y a b c Q ra rb e q => by
  unfold notInD at e
  cases e2 : inD a b with
  | none => rw [e2] at e; cases e
  | some c' =>
    rw [e2] at e
    cases e
    rcases in_cases (K := K) ra rb e2 with ⟨p, xs, e1, e2, e3, e4, e5⟩ | ⟨k, z, e1, e2, e3⟩
    · exact .inl ⟨p, xs, e1, e2, e3, e4, by simp only [if_true]; rw [e5]; exact q⟩
    · exact .inr ⟨k, z, e1, e2, by rw [e3]; exact q⟩
end VL

namespace VL
open PySem L2
variable [EC]

/-! lengths, items, slices -/
def lenD : D → Option D
  | .str x => if x.length ≤ 16777216 then some (.int x.length) else none
  | .lst l => some (.int l.length)
  | .tup l => some (.int l.length)
  | _ => none
def rLen (K : PySem.W.Frag) : List V → Hp → VK → Prop := fun xs H Q => ∃ x n, xs = [x] ∧ LenV K x H n ∧ Q (.int n) H
theorem o_len {K : PySem.W.Frag} : Op1C (fun x H Q => rLen K [x] H Q) lenD := fun G H x a c Q sm ra e q => by
  cases a <;> try (cases e; done)
  · simp only [lenD] at e
    split at e
    · cases e
      rename_i l h
      refine ⟨x, l.length, rfl, ?_, q _ rfl⟩
      rw [show x = .str (mkS l) from ra]
      exact ⟨by rw [mkS_len, sizeLine_eq]; exact h, (mkS_len l).symm⟩
    · cases e
  · cases e
    obtain ⟨p, vs, e, g, z, r⟩ := ra
    subst e
    exact ⟨_, _, rfl, .inr ⟨vs, .inl (.inl g), r.length⟩, q _ rfl⟩
  · cases e
    obtain ⟨p, vs, e, g, z, r⟩ := ra
    subst e
    exact ⟨_, _, rfl, .inl ⟨vs, .inl g, r.length⟩, q _ rfl⟩
theorem atI_reps {G : Hp} {l : List D} {vs : List V} {i : Int} {d : D} (r : Reps G l vs) (e : atI l i = some d) : ∃ v, atI vs i = some v ∧ Rep G d v := by
  unfold atI at e ⊢
  rw [← r.length]
  cases h : ixN l.length i with
  | none => rw [h] at e; cases e
  | some j =>
    rw [h] at e
    obtain ⟨v, a, b⟩ := r.get e
    exact ⟨v, a, b⟩
def ixD : D → D → Option D
  | .lst l, .int i => atI l i
  | .tup l, .int i => atI l i
  | .str x, .int i => if x.length ≤ 16777216 then (atI x i).map fun c => .str [c] else none
  | _, _ => none
def rIxA (K : PySem.W.Frag) : R2 := fun x y H Q => rIxL K x y H Q ∨ rIxT K x y H Q ∨ rIxS x y H Q
theorem ix_any {X : Cx} : IxR X (rIxA X.K) := fun value slice pins s σ H x y v u Q I rx ry h hs => by
  rcases h with h | h | h
  · exact ix_list value slice pins s σ H x y v u Q I rx ry h hs
  · exact ix_tup value slice pins s σ H x y v u Q I rx ry h hs
  · exact ix_str value slice pins s σ H x y v u Q I rx ry h hs
theorem o_ix {K : PySem.W.Frag} : Op2C (rIxA K) ixD := fun G H x y a b c Q sm ra rb e q => by
  cases a <;> cases b <;> try (cases e; done)
  · rename_i l i
    simp only [ixD] at e
    split at e
    · rename_i h
      cases e2 : atI l i with
      | none => rw [e2] at e; cases e
      | some k =>
        rw [e2] at e; cases e
        refine .inr (.inr ⟨mkS l, i, k, ra, rb, by rw [mkS_len, sizeLine_eq]; exact h, by rw [mkS_cps]; exact e2, q _ rfl⟩)
    · cases e
  · obtain ⟨p, vs, e1, g, z, r⟩ := ra
    obtain ⟨v, a1, a2⟩ := atI_reps r e
    exact .inr (.inl ⟨p, vs, _, v, e1, rb, .inl (.inl g), a1, q _ a2⟩)
  · obtain ⟨p, vs, e1, g, z, r⟩ := ra
    obtain ⟨v, a1, a2⟩ := atI_reps r e
    exact .inl ⟨p, vs, _, v, e1, rb, .inl g, a1, q _ a2⟩
/-- a slice's part -/
def cut {α : Type} (l : List α) (lo hi : Option Int) : List α := (l.drop (HT.sIx l.length 0 lo)).take (HT.sIx l.length l.length hi - HT.sIx l.length 0 lo)
theorem cut_len {α : Type} (l : List α) (lo hi : Option Int) : (cut l lo hi).length ≤ l.length := by
  unfold cut
  rw [List.length_take, List.length_drop]
  omega
def slL (lo hi : Option Int) : D → Option (List D)
  | .lst l => some (cut l lo hi)
  | _ => none
def slS (lo hi : Option Int) : D → Option D
  | .str x => if x.length ≤ 16777216 then some (.str (cut x lo hi)) else none
  | _ => none
section
variable {R : Type} {F : Fc} {tmp : Tmp} {s : State} {m : Res R} {K : Rs R} {N : Rn R} {Rt : Rr R} {ta tb : TE}
def RO (F : Fc) (tmp : Tmp) (s : State) (m : Res R) (t : TO) (K : Option Int → State → Res R → Prop) : Prop :=
  ∀ σ H Q, Holds F tmp s σ H → m ≠ .fail → EOk F m → (∀ o s' H', K o s' m → Holds F tmp s' σ H' → Q o H') → t σ H Q
theorem ro_none {K : Option Int → State → Res R → Prop} (k : K none s m) : RO F tmp s m tNoPart K := fun σ H Q hh _ _ q => q none s H k hh
theorem ro_some {K : Option Int → State → Res R → Prop} (h : RD F tmp s ta m (fun tm s1 m1 => ∃ d k, valS s1 tm = some d ∧ m1 = ob (asI d) k ∧ ∀ i, K (some i) s1 (k i))) : RO F tmp s m (tPart ta) K := fun σ H Q hh nf eo q =>
  h σ H _ hh nf eo fun tm s1 x H1 ⟨d, k, ea, em, hk⟩ h1 => by
    obtain ⟨c, ec, em'⟩ := ob_cases (by rw [← em]; exact nf)
    have h2 := h1
    obtain ⟨G, ω, h1⟩ := h1
    have r := h1.repC h1.tm.1 ea
    cases d <;> first | cases ec | skip
    exact ⟨_, r, q _ s1 H1 (by rw [em, em']; exact hk _) h2.pop⟩
theorem rd_slL {Kf : PySem.W.Frag} {tl th : TO} (h : RD F tmp s ta m (fun tm s1 m1 => ∀ x, RO F ((x, tm) :: tmp) s1 m1 tl (fun lo s2 m2 => RO F ((x, tm) :: tmp) s2 m2 th (fun hi s3 m3 => ∃ d k, valS s3 tm = some d ∧ m3 = ob (slL lo hi d) k ∧ ∀ c, K (.own (.l c)) s3 (k c))))) :
    RD F tmp s (tSl (rSlL Kf) ta tl th) m K := fun σ H Q hh nf eo q =>
  h σ H _ hh nf eo fun tm s1 x H1 h2 h1 => h2 x σ H1 _ h1 nf eo fun lo s2 H2 h3 hh2 => h3 σ H2 _ hh2 nf eo fun hi s3 H3 ⟨d, k, ea, em, hk⟩ hh3 => by
    obtain ⟨c, ec, em'⟩ := ob_cases (by rw [← em]; exact nf)
    obtain ⟨G, ω, h4⟩ := hh3
    have r := h4.repC h4.tm.1 ea
    cases d <;> first | cases ec | skip
    obtain ⟨p, vs, e1, g, z, r⟩ := r
    refine ⟨p, vs, e1, .inl g, fun p2 np => q _ s3 _ _ (by rw [em, em']; exact hk _) (h4.pop.newL np ?_ ?_)⟩
    · exact Nat.le_trans (cut_len _ lo hi) z
    · unfold cut cutV
      rw [← r.length]
      exact (r.drop _).take _
theorem rd_slS {tl th : TO} (h : RD F tmp s ta m (fun tm s1 m1 => ∀ x, RO F ((x, tm) :: tmp) s1 m1 tl (fun lo s2 m2 => RO F ((x, tm) :: tmp) s2 m2 th (fun hi s3 m3 => ∃ d k, valS s3 tm = some d ∧ m3 = ob (slS lo hi d) k ∧ ∀ c, K (.own (.f c)) s3 (k c))))) :
    RD F tmp s (tSl rSlS ta tl th) m K := fun σ H Q hh nf eo q =>
  h σ H _ hh nf eo fun tm s1 x H1 h2 h1 => h2 x σ H1 _ h1 nf eo fun lo s2 H2 h3 hh2 => h3 σ H2 _ hh2 nf eo fun hi s3 H3 ⟨d, k, ea, em, hk⟩ hh3 => by
    obtain ⟨c, ec, em'⟩ := ob_cases (by rw [← em]; exact nf)
    obtain ⟨G, ω, h4⟩ := hh3
    have r := h4.repC h4.tm.1 ea
    cases d <;> try (cases ec; done)
    rename_i l
    simp only [slS] at ec
    split at ec
    · cases ec
      rename_i hz
      refine ⟨mkS l, r, by rw [mkS_len, sizeLine_eq]; exact hz, q _ s3 _ _ (by rw [em, em']; exact hk _) ⟨G, ω, h4.pop.pushF ?_⟩⟩
      show V.str (cutS (mkS l) lo hi) = .str (mkS (cut l lo hi))
      unfold cutS cut
      rw [mkS_len, mkS_cps]; rfl
    · cases ec
end
/-! built-ins -/
def intD : D → Option D
  | .int i => some (.int i)
  | .bl b => some (.int (if b then 1 else 0))
  | .str x => if x.length ≤ 640 then (PySem.intText? (mkS x)).map .int else none
  | _ => none
def rInt : List V → Hp → VK → Prop := fun xs H Q => ((∃ i, xs = [.int i] ∧ Q (.int i) H) ∨ ∃ k, xs = [.bl k] ∧ Q (.int (if k then 1 else 0)) H) ∨ (∃ a n, xs = [.str a] ∧ PySem.intText? a = some n ∧ a.length ≤ 640 ∧ Q (.int n) H)
theorem CallR.or {X : Cx} {f : Value} {r r' : List V → Hp → VK → Prop} (h : CallR X f r) (h' : CallR X f r') : CallR X f (fun xs H Q => r xs H Q ∨ r' xs H Q) := by
  intro pins s σ H xs us Q I rv q
  rcases q with q | q
  · exact h pins s σ H xs us Q I rv q
  · exact h' pins s σ H xs us Q I rv q
theorem call_intA {X : Cx} : CallR X (.type "int") rInt := CallR.or call_int1 call_int_str
theorem o_int : Op1C (fun x H Q => rInt [x] H Q) intD := fun G H x a c Q sm ra e q => by
  cases a <;> try (cases e; done)
  · cases e
    exact .inl (.inr ⟨_, by rw [show x = _ from ra], q _ rfl⟩)
  · cases e
    exact .inl (.inl ⟨_, by rw [show x = _ from ra], q _ rfl⟩)
  · simp only [intD] at e
    split at e
    · rename_i l h
      cases e2 : PySem.intText? (mkS l) with
      | none => rw [e2] at e; cases e
      | some n =>
        rw [e2] at e; cases e
        exact .inr ⟨mkS l, n, by rw [show x = _ from ra], e2, by rw [mkS_len]; exact h, q _ rfl⟩
    · cases e
def listD : D → Option (List D) | .lst l => some l | .tup l => some l | _ => none
def rList (K : PySem.W.Frag) : List V → Hp → VK → Prop := fun xs H Q => ∃ p ys, xs = [V.ref p] ∧ (SqL K H p ys ∨ SqT K H p ys) ∧ ∀ (l : Addr), H l = none → Q (V.ref l) (upd H l (HO.lst ys))
theorem o_list {K : PySem.W.Frag} : Op1L (fun x H Q => rList K [x] H Q) listD := fun G H x a c Q sm ra e => by
  cases a <;> try (cases e; done)
  · cases e
    obtain ⟨p, vs, e, g, z, r⟩ := ra
    subst e
    exact ⟨z, fun q => ⟨p, vs, rfl, .inr (.inl (.inl g)), fun l nl => q l vs nl r⟩⟩
  · cases e
    obtain ⟨p, vs, e, g, z, r⟩ := ra
    subst e
    exact ⟨z, fun q => ⟨p, vs, rfl, .inl (.inl g), fun l nl => q l vs nl r⟩⟩
def minD : D → D → Option D | .int a, .int b => some (.int (if b < a then b else a)) | _, _ => none
def maxD : D → D → Option D | .int a, .int b => some (.int (if b > a then b else a)) | _, _ => none
theorem o_min : Op2C (fun x y H Q => (fun xs H Q => ∃ i j, xs = [V.int i, V.int j] ∧ Q (.int (if j < i then j else i)) H : List V → Hp → VK → Prop) [x, y] H Q) minD := fun G H x y a b c Q sm ra rb e q => by
  cases a <;> cases b <;> try (cases e; done)
  cases e
  exact ⟨_, _, by rw [show x = _ from ra, show y = _ from rb], q _ rfl⟩
theorem o_max : Op2C (fun x y H Q => (fun xs H Q => ∃ i j, xs = [V.int i, V.int j] ∧ Q (.int (if j > i then j else i)) H : List V → Hp → VK → Prop) [x, y] H Q) maxD := fun G H x y a b c Q sm ra rb e q => by
  cases a <;> cases b <;> try (cases e; done)
  cases e
  exact ⟨_, _, by rw [show x = _ from ra, show y = _ from rb], q _ rfl⟩
end VL

namespace VL
open PySem L2
variable [EC]

/-! temporaries in between -/
section
variable {F : Fc} {G H H' : Hp} {ω : Addr → Option Lab} {tmp : Tmp} {s : State} {σ : St} {v : V} {t : T} {d : D}
def phiMid (n e : Nat) : Lab → Option Lab
  | 1 :: j :: x => if j < n then some (1 :: j :: x) else if j < n + e then none else some (1 :: (j - e) :: x)
  | l => some l
theorem Tms.rlMid {φ : Lab → Option Lab} {tmp tmp' : Tmp} (h0 : Tms G H (VL.rl ω φ) σ tmp') (hlen : tmp'.length ≤ tmp.length) : ∀ (pre : Tmp), (∀ k x, k < pre.length → φ ([1, tmp.length + k] ++ x) = some ([1, tmp'.length + k] ++ x)) → Tms G H ω σ (pre ++ tmp) → Tms G H (VL.rl ω φ) σ (pre ++ tmp')
  | [], _, _ => h0
  | (v, tm) :: r, e, ⟨a, b⟩ => by
    refine ⟨?_, Tms.rlMid h0 hlen r (fun k x hk => e k x (Nat.lt_succ_of_lt hk)) b⟩
    cases tm with
    | own t =>
      have := e r.length
      refine Own.rl a fun x => ?_
      have q := e r.length x (Nat.lt_succ_self _)
      have l1 : (r.append tmp).length = tmp.length + r.length := by show (r ++ tmp).length = _; rw [List.length_append]; omega
      have l2 : (r.append tmp').length = tmp'.length + r.length := by show (r ++ tmp').length = _; rw [List.length_append]; omega
      rw [l1, l2]
      exact q
    | ali i => exact a
theorem Holds.dropMid {ex : Tmp} (pre : Tmp) (h : Holds F (pre ++ (ex ++ tmp)) s σ H) : Holds F (pre ++ tmp) s σ H := by
  obtain ⟨G, ω, h⟩ := h
  have ht : Tms G H ω σ tmp := Tms.tail ex (Tms.tail pre h.tm)
  refine ⟨G, rl ω (phiMid tmp.length ex.length), h.rl _ s σ _ h.len (fun j u e => ?_) ?_ h.pn⟩
  · obtain ⟨v', e1, e2⟩ := h.sl j u e
    exact ⟨v', e1, Own.rl e2 fun x => by simp [phiMid]⟩
  · refine Tms.rlMid (tmp := ex ++ tmp) (tmp' := tmp) (Tms.rl tmp (fun j x hj => ?_) ht) (by rw [List.length_append]; omega) pre (fun k x hk => ?_) h.tm
    · simp [phiMid, hj]
    · have h1 : ¬ (ex ++ tmp).length + k < tmp.length := by simp; omega
      have h2 : ¬ (ex ++ tmp).length + k < tmp.length + ex.length := by simp; omega
      have h3 : (ex ++ tmp).length + k - ex.length = tmp.length + k := by simp; omega
      simp only [phiMid, List.cons_append, List.nil_append]
      rw [if_neg h1, if_neg h2, h3]
theorem Tms.at {G H : Hp} {ω : Addr → Option Lab} {σ : St} {v : V} {tm : TM} {tmp : Tmp} : ∀ (pre : Tmp), Tms G H ω σ (pre ++ ((v, tm) :: tmp)) → TmOk G H ω σ [1, tmp.length] tm v
  | [], h => h.1
  | _ :: r, h => Tms.at r h.2
end
section
variable {R : Type} {F : Fc} {tmp : Tmp} {s : State} {m : Res R} {K : Rs R} {N : Rn R} {Rt : Rr R} {ta tb te to : TE}
abbrev Ki (R : Type) := Tmp → (State → Prop) → (State → State) → List D → State → Res R → Prop
/-! what a for walks -/
theorem ri_list {Kf : PySem.W.Frag} {K : Ki R} (h : RD F tmp s ta m (fun tm s1 m1 => ∃ ds, valS s1 tm = some (.lst ds) ∧ ∀ v, K [(v, tm)] (fun s => valS s tm = valS s1 tm) id ds s1 m1)) : RI F tmp s m (iList Kf ta) K := fun σ H Q hh nf eo q =>
  h σ H _ hh nf eo fun tm s1 x H1 ⟨ds, ea, hk⟩ h1 => by
    have at_ : ∀ (pre : Tmp) s σ H, valS s tm = some (.lst ds) → Holds F (pre ++ ([(x, tm)] ++ tmp)) s σ H → ∃ a vs G ω, x = .ref a ∧ Rd H a (.lst vs) ∧ Hd F G ω (pre ++ ([(x, tm)] ++ tmp)) s σ H ∧ Reps G ds vs ∧ ds.length ≤ sizeLine := fun pre s σ H e ⟨G, ω, h⟩ => by
      obtain ⟨a, vs, e1, g, z, r⟩ := h.repC (Tms.at (tm := tm) (tmp := tmp) pre h.tm) e
      exact ⟨a, vs, G, ω, e1, g, h, r, z⟩
    have hp' : ∀ {s : State}, valS s tm = valS s1 tm → valS s tm = some (.lst ds) := fun h => h.trans ea
    obtain ⟨a, vs, G, ω, e1, g, h2, r, z⟩ := at_ [] s1 σ H1 ea h1
    refine ⟨a, e1, ⟨vs, .inl g⟩, q [(x, tm)] _ id ds s1 (Itl Kf a) H1 (hk x) ⟨fun pre s σ H _ h => h.dropMid pre, z, fun s σ H i hp hh hi => ?_, fun s σ H hp hh => ?_, fun pre s σ H i d y H' hp hh hd hy => ?_⟩ h1⟩
    · obtain ⟨a', vs', G', ω', e2, g2, _, r2, _⟩ := at_ [] s σ H (hp' hp) hh
      rw [e1] at e2; cases e2
      have hl : i < vs'.length := by rw [← r2.length]; exact hi
      exact ⟨vs', vs'[i], .inl g2, by simp [hl]⟩
    · obtain ⟨a', vs', G', ω', e2, g2, _, r2, _⟩ := at_ [] s σ H (hp' hp) hh
      rw [e1] at e2; cases e2
      exact ⟨vs', .inl g2, by rw [r2.length]; exact Nat.le_refl _⟩
    · obtain ⟨a', vs', G', ω', e2, g2, h3, r2, _⟩ := at_ pre s σ H (hp' hp) hh
      rw [e1] at e2; cases e2
      obtain ⟨rfl, hy⟩ := hy
      have hy := hy vs' (.inl g2)
      obtain ⟨w, w1, w2⟩ := r2.get hd
      rw [hy] at w1; cases w1
      exact ⟨G', ω', h3.pushF w2⟩
def rngD (a b : D) : Option (List D) := match a, b with
  | .int i, .int j => if -1000000000 ≤ i ∧ i ≤ 1000000000 ∧ -1000000000 ≤ j ∧ j ≤ 1000000000 ∧ j - i ≤ 16777216 then some ((List.range (j - i).toNat).map fun k => .int (i + (k : Nat))) else none
  | _, _ => none
theorem it_range {lo : Int} {n : Nat} (hn : n ≤ 16777216) : ItOk F tmp ([] ++ tmp) (fun _ => True) id (Itr lo n) ((List.range n).map fun k => .int (lo + (k : Nat))) := by
  refine ⟨fun pre s σ H _ h => h.dropMid (ex := []) pre, by rw [sizeLine_eq]; simpa using hn, fun s σ H i _ _ hi => by show i < n; simpa using hi, fun s σ H _ _ => by show n ≤ _; simp, fun pre s σ H i d x H' _ hh hd hy => ?_⟩
  obtain ⟨rfl, rfl⟩ := hy
  rw [List.getElem?_map] at hd
  cases e : (List.range n)[i]? with
  | none => rw [e] at hd; cases hd
  | some k =>
    rw [e] at hd
    cases hd
    have : i = k := by
      rw [List.getElem?_range (by have := (List.getElem?_eq_some_iff.mp e).1; simpa using this)] at e
      exact Option.some.inj e
    subst this
    exact holds_push (d := .int _) hh fun _ => rfl
theorem ri_range1 {K : Ki R} (h : RD F tmp s ta m (fun tm s1 m1 => ∃ d k, valS s1 tm = some d ∧ m1 = ob (rngD (.int 0) d) k ∧ ∀ ds, K [] (fun _ => True) id ds s1 (k ds))) : RI F tmp s m (iRng1 (tCons ta tNil)) K := fun σ H Q hh nf eo q =>
  h σ H _ hh nf eo fun tm s1 x H1 ⟨d, k, ea, em, hk⟩ h1 => by
    obtain ⟨c, ec, em'⟩ := ob_cases (by rw [← em]; exact nf)
    have h2 := h1
    obtain ⟨G, ω, h1⟩ := h1
    have r := h1.repC h1.tm.1 ea
    cases d <;> try (cases ec; done)
    rename_i j
    simp only [rngD] at ec
    split at ec
    · cases ec
      rename_i hb
      have r' : x = .int j := r
      subst r'
      refine ⟨j, rfl, by omega, by omega, q [] _ id _ s1 _ H1 (by rw [em, em']; exact hk _) ?_ h2.pop⟩
      have := it_range (F := F) (tmp := tmp) (lo := 0) (n := j.toNat) (by omega)
      simpa using this
    · cases ec
def strL (x : List Nat) : List D := x.map fun c => .str [c]
def strLD : D → Option (List D) | .str x => if x.length ≤ 16777216 then some (strL x) else none | _ => none
theorem ri_str {K : Ki R} (h : RD F tmp s ta m (fun tm s1 m1 => ∃ d k, valS s1 tm = some d ∧ m1 = ob (strLD d) k ∧ ∀ ds, K [] (fun _ => True) id ds s1 (k ds))) : RI F tmp s m (iStr ta) K := fun σ H Q hh nf eo q =>
  h σ H _ hh nf eo fun tm s1 x H1 ⟨d, k, ea, em, hk⟩ h1 => by
    obtain ⟨c, ec, em'⟩ := ob_cases (by rw [← em]; exact nf)
    have h2 := h1
    obtain ⟨G, ω, h1⟩ := h1
    have r := h1.repC h1.tm.1 ea
    cases d <;> try (cases ec; done)
    rename_i z
    simp only [strLD] at ec
    split at ec
    · rename_i hz
      cases ec
      have r' : x = .str (mkS z) := r
      refine ⟨mkS z, r', q [] _ id _ s1 _ H1 (by rw [em, em']; exact hk _) ⟨fun pre s σ H _ h => h.dropMid (ex := []) pre, by rw [sizeLine_eq]; simpa [strL] using hz, fun s σ H i _ _ hi => ?_, fun s σ H _ _ => ?_, fun pre s σ H i d x H' _ hh hd hy => ?_⟩ h2.pop⟩
      · exact (walk_str (z := mkS z)).goes i H (by simpa [strL, mkS] using hi) trivial
      · have := (walk_str (z := mkS z)).stops H trivial
        simpa [strL, mkS] using this
      · obtain ⟨rfl, c, c1, rfl⟩ := hy
        unfold strL at hd
        rw [List.getElem?_map] at hd
        have : z[i]? = some c := by
          have h5 : (mkS z).cps[i]? = some c := c1
          simpa [mkS] using h5
        rw [this] at hd
        cases hd
        exact holds_push (d := .str [c]) hh fun _ => rfl
    · cases ec
/-! targets of two names -/
end
end VL

namespace VL
open PySem L2
variable [EC]

/-! methods of lists in slots -/
def apL (ds : List D) (d : D) : Option (List D) := if ds.length < 16777216 then some (ds ++ [d]) else none
def popAtL (ds : List D) : D → Option (D × List D)
  | .int i => match ixN ds.length i with
    | some k => match ds[k]? with | some d => some (d, ds.eraseIdx k) | none => none
    | none => none
  | _ => none
def setL (ds : List D) (k : D) (d : D) : Option (List D) := match k with
  | .int i => (ixN ds.length i).map fun j => ds.set j d
  | _ => none
section
variable {R : Type} {F : Fc} {tmp : Tmp} {s : State} {m : Res R} {K : Rs R} {N : Rn R} {Rt : Rr R} {ta tb te to : TE} {Kf : PySem.W.Frag}
theorem Holds.tyL {i : Nat} {ds : List D} {x : V} {σ : St} {H : Hp} (h : Holds F ((x, .ali i) :: tmp) s σ H) (hi : s[i]? = some (some (.l ds))) : tyV Kf "list" x H ∧ σ[i]? = some (some x) := by
  obtain ⟨G, ω, h⟩ := h
  obtain ⟨v, e1, a, vs, e2, ha, hw, z, r⟩ := h.sl i _ hi
  have ok : σ[i]? = some (some x) := h.tm.1
  rw [ok] at e1
  cases e1
  subst e2
  exact ⟨.inl ⟨rfl, vs, .inl (.inl ha)⟩, ok⟩
theorem rd_append (h : RD F tmp s to m (fun tm1 s1 m1 => ∃ i ds0, tm1 = .ali i ∧ s1[i]? = some (some (.l ds0)) ∧ ∀ x, RD F ((x, .ali i) :: tmp) s1 te m1 (fun tm2 s2 m2 => ∃ d ds k, tm2 = .own (.f d) ∧ s2[i]? = some (some (.l ds)) ∧ m2 = ob (apL ds d) k ∧ ∀ ds', K (.own (.f .non)) (s2.set i (some (.l ds'))) (k ds')))) :
    RD F tmp s (tBM Kf "list" rAppend to (tCons te tNil)) m K := fun σ H Q hh nf eo q =>
  h σ H _ hh nf eo fun tm1 s1 x H1 ⟨i, ds0, e1, hi0, h2⟩ h1 => by
    subst e1
    refine ⟨(h1.tyL hi0).1, h2 x σ H1 _ h1 nf eo fun tm2 s2 y H2 ⟨d, ds, k, e2, hi, em, hk⟩ h3 => ?_⟩
    subst e2
    obtain ⟨c, ec, em'⟩ := ob_cases (by rw [← em]; exact nf)
    obtain ⟨a, vs, sa, ha, hl, hz, _, up⟩ := h3.wrSlot hi
    have ex := (h3.pop.tyL (Kf := Kf) hi).2
    rw [sa] at ex; cases ex
    unfold apL at ec
    split at ec
    · cases ec
      rename_i hlt
      refine ⟨a, vs, y, rfl, rfl, ha, by rw [hl, sizeLine_eq]; exact hlt, ?_⟩
      have h4 := up (ds ++ [d]) (vs ++ [y]) (by rw [sizeLine_eq]; simp; omega) fun G _ _ r ht => r.append ⟨y, [], rfl, ht _ _ rfl d rfl, rfl⟩
      exact q _ _ .non _ (by rw [em, em']; exact hk _) (holds_push (d := .non) h4.pop.pop fun _ => rfl)
    · cases ec
theorem rd_popAt (h : RD F tmp s to m (fun tm1 s1 m1 => ∃ i ds0, tm1 = .ali i ∧ s1[i]? = some (some (.l ds0)) ∧ ∀ x, RD F ((x, .ali i) :: tmp) s1 te m1 (fun tm2 s2 m2 => ∃ di ds k, valS s2 tm2 = some di ∧ s2[i]? = some (some (.l ds)) ∧ m2 = ob (popAtL ds di) k ∧ ∀ p : D × List D, K (.own (.f p.1)) (s2.set i (some (.l p.2))) (k p)))) :
    RD F tmp s (tBM Kf "list" rPopAt to (tCons te tNil)) m K := fun σ H Q hh nf eo q =>
  h σ H _ hh nf eo fun tm1 s1 x H1 ⟨i, ds0, e1, hi0, h2⟩ h1 => by
    subst e1
    refine ⟨(h1.tyL hi0).1, h2 x σ H1 _ h1 nf eo fun tm2 s2 y H2 ⟨di, ds, k, e2, hi, em, hk⟩ h3 => ?_⟩
    obtain ⟨c, ec, em'⟩ := ob_cases (by rw [← em]; exact nf)
    have ey : ∃ j, di = .int j ∧ y = .int j := by
      obtain ⟨G, ω, h4⟩ := h3
      have r := h4.repC h4.tm.1 e2
      cases di <;> try (cases ec; done)
      exact ⟨_, rfl, r⟩
    obtain ⟨j, rfl, rfl⟩ := ey
    have h3 := h3.pop
    obtain ⟨a, vs, sa, ha, hl, hz, get, _⟩ := h3.wrSlot hi
    have ex := (h3.tyL (Kf := Kf) hi).2
    rw [sa] at ex; cases ex
    simp only [popAtL] at ec
    split at ec
    · rename_i k0 hk0
      split at ec
      · rename_i d hd
        cases ec
        obtain ⟨v, e2, hp⟩ := get _ _ hd
        have h2 := hp (x := v) rfl
        obtain ⟨a', vs', sa', ha', hl', hz', _, up⟩ := h2.wrSlot hi
        rw [sa] at sa'; cases sa'
        rw [ha] at ha'; cases ha'
        obtain ⟨i1, i2, i3, i4⟩ := ixN_seq hk0
        have hb : (ds.length : Int) ≤ 16777216 := by rw [sizeLine_eq] at hz; omega
        refine ⟨a, vs, j, k0, v, rfl, rfl, ha, by omega, by omega, by rw [hl]; exact i1, e2, ?_⟩
        have h4 := up (ds.eraseIdx k0) (vs.eraseIdx k0) (by rw [List.length_eraseIdx]; split <;> omega) fun G _ _ r ht => r.eraseIdx k0
        obtain ⟨G, ω, h4⟩ := h4
        exact q _ _ v _ (by rw [em, em']; exact hk (_, _)) ⟨G, ω, h4.pop.pop.pushF h4.topF⟩
      · cases ec
    · cases ec
/-- x[i] = v -/
theorem rs_setL (h : RD F tmp s te m (fun tm1 s1 m1 => ∃ d, tm1 = .own (.f d) ∧ ∀ v, RD F ((v, .own (.f d)) :: tmp) s1 to m1 (fun tm2 s2 m2 => ∃ i, tm2 = .ali i ∧ ∀ x, RD F ((x, .ali i) :: (v, .own (.f d)) :: tmp) s2 ta m2 (fun tm3 s3 m3 => ∃ dk ds k, valS s3 tm3 = some dk ∧ s3[i]? = some (some (.l ds)) ∧ m3 = ob (setL ds dk d) k ∧ ∀ ds', N (s3.set i (some (.l ds'))) (k ds'))))) :
    RS F tmp s m (tAsg te (gSub to ta rSetL)) N Rt := fun σ H De hh nf eo nx rt =>
  h σ H _ hh nf eo fun tm1 s1 v H1 ⟨d, e1, h2⟩ h1 => by
    subst e1
    refine h2 v σ H1 _ h1 nf eo fun tm2 s2 x H2 ⟨i, e2, h4⟩ h3 => ?_
    subst e2
    refine h4 x σ H2 _ h3 nf eo fun tm3 s3 y H3 ⟨dk, ds, k, ea, hi, em, hk⟩ h5 => ?_
    obtain ⟨c, ec, em'⟩ := ob_cases (by rw [← em]; exact nf)
    have ey : ∃ j, dk = .int j ∧ y = .int j := by
      obtain ⟨G, ω, h6⟩ := h5
      have r := h6.repC h6.tm.1 ea
      cases dk <;> try (cases ec; done)
      exact ⟨_, rfl, r⟩
    obtain ⟨j, rfl, rfl⟩ := ey
    have h6 := h5.pop
    have ex := (h6.tyL (Kf := F.K) hi).2
    have h7 := h6.pop
    obtain ⟨a, vs, sa, ha, hl, hz, _, up⟩ := h7.wrSlot hi
    rw [sa] at ex; cases ex
    simp only [setL] at ec
    cases e3 : ixN ds.length j with
    | none => rw [e3] at ec; cases ec
    | some n =>
      rw [e3] at ec
      cases ec
      refine ⟨a, vs, j, n, rfl, rfl, ha, by rw [hl]; exact e3, ?_⟩
      have h8 := up (ds.set n d) (vs.set n v) (by simpa using hz) fun G _ _ r ht => r.set n (ht _ _ rfl d rfl)
      exact nx _ σ _ (by rw [em, em']; exact hk _) h8.pop
/-! lists by values -/
theorem reps_eqV {H : Hp} {a : D} {x : V} (f : a.flat = true) (r : Rep H a x) {l : List D} {vs : List V} (g : l.all D.flat = true) (q : Reps H l vs) {j : Nat} {v : V} (e : vs[j]? = some v) : ∃ d, l[j]? = some d ∧ eqV v x = D.eqv d a := by
  have hl : j < l.length := by rw [q.length]; exact (List.getElem?_eq_some_iff.mp e).1
  have hd : l[j]? = some l[j] := List.getElem?_eq_getElem hl
  obtain ⟨w, w1, w2⟩ := q.get hd
  rw [e] at w1; cases w1
  exact ⟨l[j], hd, eqV_ok (List.all_eq_true.mp g _ (List.getElem_mem hl)) f w2 r⟩
def indexD : D → D → Option D
  | .lst l, a => if a.flat = true ∧ l.all D.flat = true then (l.findIdx? fun d => D.eqv d a).map fun j => .int (j : Nat) else none
  | _, _ => none
theorem rd_index (h : RD F tmp s to m (fun tm1 s1 m1 => ∃ l0, valS s1 tm1 = some (.lst l0) ∧ ∀ x, RD F ((x, tm1) :: tmp) s1 te m1 (fun tm2 s2 m2 => ∃ a b k, valS s2 tm1 = some a ∧ valS s2 tm2 = some b ∧ m2 = ob (indexD a b) k ∧ ∀ c, K (.own (.f c)) s2 (k c)))) :
    RD F tmp s (tBM Kf "list" (rIndex Kf) to (tCons te tNil)) m K := fun σ H Q hh nf eo q =>
  h σ H _ hh nf eo fun tm1 s1 x H1 ⟨l0, e0, h2⟩ h1 => by
    have ht : tyV Kf "list" x H1 := by
      obtain ⟨G, ω, h3⟩ := h1
      obtain ⟨a, vs, e, g, z, r⟩ := h3.repC h3.tm.1 e0
      subst e
      exact .inl ⟨rfl, vs, .inl g⟩
    refine ⟨ht, h2 x σ H1 _ h1 nf eo fun tm2 s2 y H2 ⟨a, b, k, ea, eb, em, hk⟩ h3 => ?_⟩
    obtain ⟨c, ec, em'⟩ := ob_cases (by rw [← em]; exact nf)
    have h5 := h3
    obtain ⟨G, ω, h4⟩ := h3
    have ra := h4.repC h4.tm.2.1 ea
    have rb := (h4.repC h4.tm.1 eb).toR h4.gH
    cases a <;> try (cases ec; done)
    rename_i l
    obtain ⟨p, vs, e, g, z, r⟩ := ra
    simp only [indexD] at ec
    split at ec
    · rename_i hf
      cases e2 : l.findIdx? (fun d => D.eqv d b) with
      | none => rw [e2] at ec; cases ec
      | some j =>
        rw [e2] at ec
        cases ec
        obtain ⟨j1, j2, j3⟩ := List.findIdx?_eq_some_iff_getElem.mp e2
        have r2 := Reps.mono h4.gH _ _ r
        have hv : j < vs.length := by rw [← r.length]; exact j1
        have hvj : vs[j]? = some vs[j] := List.getElem?_eq_getElem hv
        obtain ⟨d, d1, d2⟩ := reps_eqV hf.1 rb hf.2 r2 hvj
        rw [List.getElem?_eq_getElem j1] at d1
        cases d1
        refine ⟨p, vs, y, j, vs[j], e, rfl, .inl g, flat_ok hf.1 rb, flats_ok hf.2 r2, hvj, d2.trans j2, fun m z' hm ez => ?_, ?_⟩
        · obtain ⟨d', d3, d4⟩ := reps_eqV hf.1 rb hf.2 r2 ez
          have hml : m < l.length := by omega
          rw [List.getElem?_eq_getElem hml] at d3
          cases d3
          rw [d4]
          have := j3 m hm
          simpa using this
        · exact q _ s2 _ H2 (by rw [em, em']; exact hk _) (holds_push (d := .int _) h5.pop.pop fun _ => rfl)
    · cases ec
def strsD : List D → Option (List (List Nat))
  | [] => some []
  | .str x :: r => (strsD r).map (x :: ·)
  | _ :: _ => none
theorem strs_ok {G : Hp} : ∀ {l : List D} {ys : List (List Nat)} {vs : List V}, strsD l = some ys → Reps G l vs → vs = (ys.map mkS).map V.str
  | [], ys, vs, e, h => by cases e; exact h
  | .str x :: r, ys, vs, e, ⟨v, q, e1, h, k⟩ => by
    cases e2 : strsD r with
    | none => simp [strsD, e2] at e
    | some ys' =>
      simp [strsD, e2] at e
      subst e
      rw [e1, show v = .str (mkS x) from h, strs_ok e2 k]
      rfl
  | .non :: _, _, _, e, _ => by cases e
  | .bl _ :: _, _, _, e, _ => by cases e
  | .int _ :: _, _, _, e, _ => by cases e
  | .tup _ :: _, _, _, e, _ => by cases e
  | .lst _ :: _, _, _, e, _ => by cases e
  | .dct _ _ :: _, _, _, e, _ => by cases e
  | .opq _ :: _, _, _, e, _ => by cases e
  | .exc _ _ :: _, _, _, e, _ => by cases e
  | .fd _ _ _ :: _, _, _, e, _ => by cases e
  | .fz _ :: _, _, _, e, _ => by cases e
def joinS (a : List Nat) : List (List Nat) → List Nat
  | [] => []
  | [x] => x
  | x :: r => x ++ a ++ joinS a r
def joinD : D → D → Option D
  | .str a, .lst l => match strsD l with
    | some ys => if (ys.map List.length).sum + ys.length * a.length ≤ 16777216 then some (.str (joinS a ys)) else none
    | none => none
  | _, _ => none
end
/-! isinstance -/
inductive Kn where | int | str | bool | list | tuple | dict
def Kn.nm : Kn → String | .int => "int" | .str => "str" | .bool => "bool" | .list => "list" | .tuple => "tuple" | .dict => "dict"
def isK : D → Kn → Option Bool
  | .non, _ => some false
  | .bl _, .bool => some true
  | .bl _, .int => some true
  | .bl _, _ => some false
  | .int _, .int => some true
  | .int _, _ => some false
  | .str _, .str => some true
  | .str _, _ => some false
  | .tup _, .tuple => some true
  | .tup _, _ => some false
  | .lst _, .list => some true
  | .lst _, _ => some false
  | .dct false _, .dict => some true
  | .dct false _, _ => some false
  | .dct true _, _ => none
  | .opq _, _ => none
  | .exc _ _, _ => none
  | .fd _ _ _, _ => none
  | .fz _, _ => none
def isO : D → Bool | .opq _ => true | .exc _ _ => true | .fd _ _ _ => true | .fz _ => true | .dct true _ => true | _ => false
def tyN : D → String | .non => "NoneType" | .bl _ => "bool" | .int _ => "int" | .str _ => "str" | .tup _ => "tuple" | .lst _ => "list" | .dct _ _ => "dict" | .opq _ => "" | .exc _ _ => "" | .fd _ _ _ => "" | .fz _ => ""
theorem ty_ok {K : PySem.W.Frag} {H : Hp} : ∀ (d : D) (x : V), isO d = false → Rep H d x → TyX K H x (.type (tyN d))
  | .non, x, _, h => by rw [show x = .non from h]; exact .base .non
  | .bl b, x, _, h => by rw [show x = .bl b from h]; exact .base (.bl b)
  | .int b, x, _, h => by rw [show x = .int b from h]; exact .base (.int b)
  | .str b, x, _, h => by rw [show x = .str (mkS b) from h]; exact .base (.str _)
  | .tup l, x, _, ⟨a, vs, e, g, _, _⟩ => by rw [e]; exact .base (.tup g)
  | .lst l, x, _, ⟨a, vs, e, .inl g, _, _⟩ => by rw [e]; exact .base (.lst g)
  | .lst l, x, _, ⟨a, vs, e, .inr ⟨o, g⟩, _, _⟩ => by rw [e]; exact .base (.frz g)
  | .dct false l, x, _, ⟨a, kvs, e, .inl g, _⟩ => by rw [e]; exact .base (.dK g)
  | .dct false l, x, _, ⟨a, kvs, e, .inr ⟨o, g⟩, _⟩ => by rw [e]; exact .fDict g
  | .dct true l, x, n, _ => by cases n
  | .opq w, x, n, _ => by cases n
  | .exc _ _, x, n, _ => by cases n
  | .fd _ _ _, x, n, _ => by cases n
  | .fz _, x, n, _ => by cases n
theorem kitB_ok : ∀ (d : D) (k : Kn) (c : Bool), isK d k = some c → kitB (tyN d) k.nm = some c := by
  intro d k c e
  cases d <;> cases k <;> first | cases e | skip
  all_goals try (rename_i b _; cases b <;> first | cases e | skip)
  all_goals (simp only [tyN, Kn.nm]; decide +kernel)
section
variable {R : Type} {F : Fc} {tmp : Tmp} {s : State} {m : Res R} {K : Rs R} {ta tb te to : TE} {Kf : PySem.W.Frag}
theorem rd_isi (kn : Kn) (h : RD F tmp s ta m (fun tm1 s1 m1 => ∃ a k, valT s1 tm1 = some a ∧ m1 = ob (isK a kn) k ∧ ∀ c, K (.own (.f (.bl c))) s1 (k c))) : RD F tmp s (tCB (rIsi Kf) (tCons ta (tCons (tC (.ty kn.nm)) tNil))) m K := fun σ H Q hh nf eo q =>
  h σ H _ hh nf eo fun tm1 s1 x H1 ⟨a, k, ea, em, hk⟩ h1 => by
    obtain ⟨c, ec, em'⟩ := ob_cases (by rw [← em]; exact nf)
    have h3 := h1
    obtain ⟨G, ω, h2⟩ := h1
    have r := h2.repT h2.tm.1 ea
    have no : isO a = false := by cases a <;> first | rfl | cases ec | (rename_i b _; cases b <;> first | rfl | cases ec)
    exact ⟨x, .ty kn.nm, .type (tyN a), .type kn.nm, c, rfl, .ty _, ty_ok a x no r, kit_ty (kitB_ok a kn c ec), q _ s1 _ H1 (by rw [em, em']; exact hk c) (holds_bl h3.pop)⟩
end
end VL

namespace VL
open PySem L2
variable [EC]

/-! join, lists put together -/
theorem join_ok (a : List Nat) : ∀ ys : List (List Nat), Txt.join (mkS a) (ys.map mkS) = mkS (joinS a ys) := by
  intro ys
  show Builtin.Str.glued (mkS a) (ys.map mkS) = _
  rw [StrLaws.glued_eq_join]
  induction ys with
  | nil => rfl
  | cons x r ih =>
    cases r with
    | nil => rfl
    | cons y q =>
      show mkS x ++ mkS a ++ Str.join (mkS a) ((y :: q).map mkS) = mkS (x ++ a ++ joinS a (y :: q))
      rw [ih, mkS_app, mkS_app]
def rCatR : R2 := fun x y H Q => ∃ l b xs zs, x = .ref l ∧ y = .ref b ∧ Rd H l (.lst xs) ∧ Rd H b (.lst zs) ∧ xs.length + zs.length ≤ sizeLine ∧ ∀ p, H p = none → Q (.ref p) (upd H p (.lst (xs ++ zs)))
theorem op_catR {X : Cx} : OpR X (binaryOp .Add) rCatR := by
  intro pins s σ H x y v u Q I rx ry h
  obtain ⟨l, b, xs, zs, e1, e2, hH, hB, hz, q⟩ := h
  subst e1; subst e2
  cases rx
  cases ry
  obtain ⟨z, its, n, r, ho⟩ := hH.ok I.hok
  obtain ⟨z2, its2, n2, r2, ho2⟩ := hB.ok I.hok
  refine PySem.P.add_list ho ho2 ?_ (by rw [List.size_toArray, List.size_toArray, ← r.length, ← r2.length]; exact hz)
  rw [show its.toArray ++ its2.toArray = (its ++ its2).toArray by simp]
  exact ⟨.ref _, _, I.lnew (t' := s.toks) (r.append r2) (by rw [List.length_append]; exact hz), rfl, q _ I.fresh⟩
def catD : D → D → Option (List D)
  | .lst a, .lst b => if a.length + b.length ≤ 16777216 then some (a ++ b) else none
  | _, _ => none
theorem o_cat : Op2L rCatR catD := fun G H x y a b c Q sm ra rb e => by
  cases a <;> cases b <;> try (cases e; done)
  rename_i l m
  simp only [catD] at e
  split at e
  · rename_i hz
    cases e
    obtain ⟨p, vs, e1, g1, z1, r1⟩ := ra
    obtain ⟨p2, ws, e2, g2, z2, r2⟩ := rb
    refine ⟨by rw [sizeLine_eq, List.length_append]; exact hz, fun q => ⟨p, p2, vs, ws, e1, e2, g1, g2, by rw [← r1.length, ← r2.length, sizeLine_eq]; exact hz, fun p3 np => q p3 _ np (r1.append r2)⟩⟩
  · cases e
theorem Reps.rep {G : Hp} {l : List D} {vs : List V} (h : Reps G l vs) : ∀ n, Reps G (List.replicate n l).flatten (List.replicate n vs).flatten
  | 0 => rfl
  | n + 1 => by
    rw [List.replicate_succ, List.replicate_succ, List.flatten_cons, List.flatten_cons]
    exact h.append (Reps.rep h n)
section
variable {R : Type} {F : Fc} {tmp : Tmp} {s : State} {m : Res R} {K : Rs R} {N : Rn R} {Rt : Rr R} {ta tb te to td ty tv : TE} {Kf : PySem.W.Frag}
/-- sep.join(xs) -/
theorem rd_join (h : RD F tmp s to m (fun tm1 s1 m1 => (∃ a0, valS s1 tm1 = some (.str a0)) ∧ ∀ x, RD F ((x, tm1) :: tmp) s1 te m1 (fun tm2 s2 m2 => ∃ a b k, valS s2 tm1 = some a ∧ valS s2 tm2 = some b ∧ m2 = ob (joinD a b) k ∧ ∀ c, K (.own (.f c)) s2 (k c)))) :
    RD F tmp s (tM1 (fun x xs H Q => ∃ a p ys, x = V.str a ∧ xs = [V.ref p] ∧ (SqL Kf H p (List.map V.str ys) ∨ SqT Kf H p (List.map V.str ys)) ∧ (List.map (fun x : Str => x.length) ys).sum + ys.length * a.length ≤ 16777216 ∧ Q (V.str (Txt.join a ys)) H) to te) m K := fun σ H Q hh nf eo q =>
  h σ H _ hh nf eo fun tm1 s1 x H1 ⟨⟨a0, e0⟩, h2⟩ h1 => by
    refine ⟨?_, h2 x σ H1 _ h1 nf eo fun tm2 s2 y H2 ⟨a, b, k, ea, eb, em, hk⟩ h3 => ?_⟩
    · obtain ⟨G, ω, h4⟩ := h1
      exact ⟨_, h4.repC h4.tm.1 e0⟩
    obtain ⟨c, ec, em'⟩ := ob_cases (by rw [← em]; exact nf)
    have h5 := h3
    obtain ⟨G, ω, h4⟩ := h3
    have ra := h4.repC h4.tm.2.1 ea
    have rb := h4.repC h4.tm.1 eb
    cases a <;> cases b <;> try (cases ec; done)
    rename_i z l
    simp only [joinD] at ec
    split at ec
    · rename_i ys hs
      split at ec
      · rename_i hz
        cases ec
        obtain ⟨p, vs, e1, g, zz, r⟩ := rb
        have hv := strs_ok hs r
        subst hv
        refine ⟨mkS z, p, ys.map mkS, ra, by rw [show y = .ref p from e1], .inl (.inl g), ?_, ?_⟩
        · rw [List.map_map, List.length_map, mkS_len]
          have : ((fun x : Str => x.length) ∘ mkS) = List.length := by funext w; exact mkS_len w
          rw [this]; exact hz
        · rw [join_ok]
          exact q _ s2 _ H2 (by rw [em, em']; exact hk _) (holds_push (d := .str _) h5.pop.pop fun _ => rfl)
      · cases ec
    · cases ec
/-! str of a whole number -/
end
/-! dicts -/
def keyK : D → Option Key
  | .int i => some (.inl i)
  | .str x => some (.inr (mkS x))
  | _ => none
theorem keyK_kD {d : D} {k : Key} (h : keyK d = some k) : d = kD k := by
  cases d <;> try (cases h; done)
  · cases h; rfl
  · cases h; simp [kD, mkS_cps]
theorem rep_key {H : Hp} {d : D} {k : Key} {y : V} (h : keyK d = some k) (r : Rep H d y) : y = kV k := by
  cases d <;> try (cases h; done)
  · cases h; exact r
  · cases h; exact r
theorem kD_eqv : ∀ (a b : Key), D.eqv (kD a) (kD b) = decide (a = b)
  | .inl a, .inl b => by
    show (a == b) = _
    by_cases h : a = b
    · subst h; simp
    · rw [beq_eq_false_iff_ne.mpr h]; exact (decide_eq_false fun z => h (Sum.inl.inj z)).symm
  | .inl a, .inr b => by rw [decide_eq_false fun z => nomatch z]; rfl
  | .inr a, .inl b => by rw [decide_eq_false fun z => nomatch z]; rfl
  | .inr a, .inr b => by
    show (a.cps.toList == b.cps.toList) = _
    by_cases h : a = b
    · subst h; simp
    · have h2 : ¬ a.cps.toList = b.cps.toList := fun z => h (by rw [← mkS_of a, ← mkS_of b, z])
      rw [beq_eq_false_iff_ne.mpr h2]; exact (decide_eq_false fun z => h (Sum.inr.inj z)).symm
def keyOk (k : Bool) (d : D) : Bool := if k = true then false else (keyK d).isSome
def findD (l : List (D × D)) (d : D) : Option D := (l.find? fun kv => D.eqv kv.1 d).map (·.2)
def storeD (l : List (D × D)) (d v : D) : List (D × D) := if (l.any fun kv => D.eqv kv.1 d) = true then l.map (fun kv => if D.eqv kv.1 d = true then (kv.1, v) else kv) else l ++ [(d, v)]
theorem repK_find {G : Hp} {kk : Key} {d : D} (hd : d = kD kk) : ∀ {l : List (D × D)} {kvs : List (Key × V)}, RepK G l kvs →
    (findD l d = none ∧ valV kvs kk = none) ∨ ∃ c v, findD l d = some c ∧ valV kvs kk = some v ∧ Rep G c v
  | [], _, h => by cases (show _ = [] from h); exact .inl ⟨rfl, rfl⟩
  | (k, c) :: r, _, ⟨k', v, q, e, ek, rc, h⟩ => by
    subst e; subst hd; subst ek
    unfold findD valV
    rw [List.find?_cons, List.find?_cons]
    show (_ ∧ _) ∨ _
    rw [kD_eqv]
    by_cases e : k' = kk
    · rw [decide_eq_true e]; exact .inr ⟨c, v, rfl, rfl, rc⟩
    · rw [decide_eq_false e]; exact repK_find rfl h
theorem dget_any {G H : Hp} {k : Bool} {l : List (D × D)} {d : D} {x y : V} (sm : Same G H) (rx : RepC G H (.dct k l) x) (ry : RepC G H d y) (ok : keyOk k d = true) :
    ∃ a o, x = .ref a ∧ DGet H a y o ∧ ((findD l d = none ∧ o = none) ∨ ∃ c v, findD l d = some c ∧ o = some v ∧ Rep G c v) := by
  have ry' := ry.toR sm
  cases k with
  | false =>
    obtain ⟨a, kvs, e, g, r⟩ := rx
    obtain ⟨kk, hk⟩ := Option.isSome_iff_exists.mp (show (keyK d).isSome = true from ok)
    rw [rep_key hk ry']
    refine ⟨a, valV kvs kk, e, .inl ⟨kvs, kk, g, rfl, rfl⟩, ?_⟩
    rcases repK_find (keyK_kD hk) r with ⟨h1, h2⟩ | ⟨c, v, h1, h2, h3⟩
    · exact .inl ⟨h1, h2⟩
    · exact .inr ⟨c, v, h1, h2, h3⟩
  | true => cases ok
theorem repK_store {G : Hp} {kk : Key} {d c : D} {v : V} (hd : d = kD kk) (rc : Rep G c v) {l : List (D × D)} {kvs : List (Key × V)} (h : RepK G l kvs) : RepK G (storeD l d c) (putK kvs kk v) := by
  subst hd
  have hany : ∀ {l : List (D × D)} {kvs : List (Key × V)}, RepK G l kvs → (l.any fun kv => D.eqv kv.1 (kD kk)) = kvs.any fun kv => decide (kv.1 = kk) := by
    intro l
    induction l with
    | nil => intro kvs h; cases (show kvs = [] from h); rfl
    | cons kv r ih =>
      obtain ⟨k, c'⟩ := kv
      intro kvs ⟨k', v', q, e, ek, rc', h'⟩
      subst e; subst ek
      rw [List.any_cons, List.any_cons, ih h', kD_eqv]
  have hmap : ∀ {l : List (D × D)} {kvs : List (Key × V)}, RepK G l kvs → RepK G (l.map fun kv => if D.eqv kv.1 (kD kk) = true then (kv.1, c) else kv) (kvs.map fun kv => if kv.1 = kk then (kv.1, v) else kv) := by
    intro l
    induction l with
    | nil => intro kvs h; cases (show kvs = [] from h); exact rfl
    | cons kv r ih =>
      obtain ⟨k, c'⟩ := kv
      intro kvs ⟨k', v', q, e, ek, rc', h'⟩
      subst e; subst ek
      rw [List.map_cons, List.map_cons]
      simp only [kD_eqv]
      by_cases e : k' = kk
      · simp only [e, decide_true, if_true]
        exact ⟨kk, v, _, rfl, rfl, rc, by simpa only [kD_eqv] using ih h'⟩
      · simp only [e, decide_false, Bool.false_eq_true, if_false]
        exact ⟨k', v', _, rfl, rfl, rc', by simpa only [kD_eqv] using ih h'⟩
  have happ : ∀ {l : List (D × D)} {kvs : List (Key × V)}, RepK G l kvs → RepK G (l ++ [(kD kk, c)]) (kvs ++ [(kk, v)]) := by
    intro l
    induction l with
    | nil => intro kvs h; cases (show kvs = [] from h); exact ⟨kk, v, [], rfl, rfl, rc, rfl⟩
    | cons kv r ih =>
      obtain ⟨k, c'⟩ := kv
      intro kvs ⟨k', v', q, e, ek, rc', h'⟩
      subst e
      exact ⟨k', v', _, rfl, ek, rc', ih h'⟩
  unfold storeD putK
  rw [hany h]
  split
  · exact hmap h
  · exact happ h
def dgetD (a d : D) : Option D := match a with | .dct k l => if keyOk k d = true then findD l d else none | _ => none
def dinD (d a : D) : Option Bool := match a with | .dct k l => if keyOk k d = true then some (findD l d).isSome else none | _ => none
def dputD (k : Bool) (l : List (D × D)) (d v : D) : Option (List (D × D)) := if keyOk k d = true ∧ l.length < 16777216 then some (storeD l d v) else none
section
variable {R : Type} {F : Fc} {tmp : Tmp} {s : State} {m : Res R} {K : Rs R} {N : Rn R} {Rt : Rr R} {ta tb te to td ty tv tx : TE} {Kf : PySem.W.Frag}
theorem rd_dget (h : RD F tmp s td m (fun tm1 s1 m1 => ∀ x, RD F ((x, tm1) :: tmp) s1 ty m1 (fun tm2 s2 m2 => ∃ a b k, valS s2 tm1 = some a ∧ valS s2 tm2 = some b ∧ m2 = ob (dgetD a b) k ∧ ∀ c, K (.own (.f c)) s2 (k c)))) : RD F tmp s (tDGet td ty) m K := fun σ H Q hh nf eo q =>
  h σ H _ hh nf eo fun tm1 s1 x H1 h2 h1 => h2 x σ H1 _ h1 nf eo fun tm2 s2 y H2 ⟨a, b, k, ea, eb, em, hk⟩ h3 => by
    obtain ⟨c, ec, em'⟩ := ob_cases (by rw [← em]; exact nf)
    obtain ⟨G, ω, h3⟩ := h3
    have ra := h3.repC h3.tm.2.1 ea
    have rb := h3.repC h3.tm.1 eb
    cases a <;> try (cases ec; done)
    simp only [dgetD] at ec
    split at ec
    · rename_i ok
      obtain ⟨p, o, e1, g, w⟩ := dget_any h3.gH ra rb ok
      rcases w with ⟨w1, _⟩ | ⟨c', v, w1, w2, w3⟩
      · rw [w1] at ec; cases ec
      · rw [w1] at ec; cases ec
        rw [w2] at g
        exact ⟨p, v, e1, g, q _ s2 v H2 (by rw [em, em']; exact hk _) ⟨G, ω, h3.pop.pop.pushF w3⟩⟩
    · cases ec
theorem din_core {b : Bool} {f : Bool → Bool} {σ : St} {H1 : Hp} {tm1 tm2 : TM} {s2 : State} {x y : V} {d a : D} (h3 : Holds F ((x, tm2) :: (y, tm1) :: tmp) s2 σ H1) (ed : valS s2 tm1 = some d) (ea : valS s2 tm2 = some a) (ec : dinD d a = some b) : ∃ p o, x = .ref p ∧ DGet H1 p y o ∧ o.isSome = b := by
  obtain ⟨G, ω, h3⟩ := h3
  have rd := h3.repC h3.tm.2.1 ed
  have ra := h3.repC h3.tm.1 ea
  cases a <;> try (cases ec; done)
  simp only [dinD] at ec
  split at ec
  · rename_i ok
    cases ec
    obtain ⟨p, o, e1, g, w⟩ := dget_any h3.gH ra rd ok
    refine ⟨p, o, e1, g, ?_⟩
    rcases w with ⟨w1, w2⟩ | ⟨c', v, w1, w2, w3⟩ <;> (rw [w1, w2]; rfl)
  · cases ec
theorem rt_dnotin {K : Bool → State → Res R → Prop} (h : RD F tmp s ty m (fun tm1 s1 m1 => ∀ y, RD F ((y, tm1) :: tmp) s1 td m1 (fun tm2 s2 m2 => ∃ d a k, valS s2 tm1 = some d ∧ valS s2 tm2 = some a ∧ m2 = ob (dinD d a) k ∧ ∀ c, K (!c) s2 (k c)))) : RT F tmp s m (tB (tDNotIn ty td)) K := fun σ H Q hh nf eo q =>
  h σ H _ hh nf eo fun tm1 s1 y H1 h2 h1 => h2 y σ H1 _ h1 nf eo fun tm2 s2 x H2 ⟨d, a, k, ed, ea, em, hk⟩ h3 => by
    obtain ⟨c, ec, em'⟩ := ob_cases (by rw [← em]; exact nf)
    obtain ⟨p, o, e1, g, e2⟩ := din_core (f := id) h3 ed ea ec
    exact ⟨p, o, e1, g, !c, by rw [e2], q _ s2 H2 (by rw [em, em']; exact hk _) h3.pop.pop⟩
theorem rd_dnewK (k : K (.own (.dc false [])) s m) : RD F tmp s tDNewK m K := fun σ H Q hh nf eo q => fun p np => by
  obtain ⟨G, ω, h⟩ := hh
  exact q _ s _ _ k ⟨G, _, h.newO np ⟨p, [], rfl, by simp, upd_same, rfl⟩⟩
/-- an owned dict in slot i -/
theorem Holds.wrDict {σ : St} {H : Hp} {c d : D} {x y : V} {k : Bool} (h : Holds F ((y, .own (.f d)) :: (x, .own (.f c)) :: tmp) s σ H) {i : Nat} {l : List (D × D)} (hi : s[i]? = some (some (.dc k l))) (ok : keyOk k d = true) (hz : l.length < 16777216) :
    ∃ a H', σ[i]? = some (some (.ref a)) ∧ DPut H a y x H' ∧ Holds F tmp (s.set i (some (.dc k (storeD l d c)))) σ H' := by
  obtain ⟨G, ω, h⟩ := h
  have ry : Rep G d y := h.tm.1
  have rx : Rep G c x := h.tm.2.1
  have fin : ∀ {a : Addr} {o : HO}, ω a = some [0, i] → σ[i]? = some (some (.ref a)) → Own G (upd H a o) ω [0, i] (.dc k (storeD l d c)) (.ref a) → Holds F tmp (s.set i (some (.dc k (storeD l d c)))) σ (upd H a o) := fun {a o} hw e1 q => by
    refine ⟨G, ω, (h.pop.pop).wr hw o (by simp) (fun j u e => ?_) (Tms.wrO hw tmp (fun j hj => by simp [pre]) h.tm.2.2)⟩
    have hil : i < s.length := (List.getElem?_eq_some_iff.mp hi).1
    by_cases hj : i = j
    · subst hj
      rw [List.getElem?_set_self hil] at e
      cases e
      exact ⟨_, e1, q⟩
    · rw [List.getElem?_set_ne hj] at e
      obtain ⟨v', b1, b2⟩ := h.sl j u e
      exact ⟨v', b1, Own.wrO hw (by simp [pre]; exact fun z => hj z.symm) b2⟩
  cases k with
  | false =>
    obtain ⟨v, e1, a, kvs, e2, hw, ha, r⟩ := h.sl i _ hi
    subst e2
    obtain ⟨kk, hk⟩ := Option.isSome_iff_exists.mp (show (keyK d).isSome = true from ok)
    have hl : kvs.length < sizeLine := by
      have : ∀ {l : List (D × D)} {kvs : List (Key × V)}, RepK G l kvs → l.length = kvs.length := by
        intro l
        induction l with
        | nil => intro kvs h; cases (show kvs = [] from h); rfl
        | cons kv r ih =>
          obtain ⟨k, c'⟩ := kv
          intro kvs ⟨k', v', q, e, ek, rc', h'⟩
          subst e
          simp [ih h']
      rw [← this r, sizeLine_eq]; exact hz
    refine ⟨a, _, e1, by rw [rep_key hk (Rep.mono h.gH _ _ ry)]; exact .k ha hl, fin hw e1 ⟨a, _, rfl, hw, upd_same, repK_store (keyK_kD hk) rx r⟩⟩
  | true => cases ok
theorem rs_dput (h : RD F tmp s tv m (fun tm1 s1 m1 => ∃ c, tm1 = .own (.f c) ∧ ∀ v, RD F ((v, .own (.f c)) :: tmp) s1 td m1 (fun tm2 s2 m2 => ∃ i, tm2 = .ali i ∧ ∀ x, RD F ((x, .ali i) :: (v, .own (.f c)) :: tmp) s2 ty m2 (fun tm3 s3 m3 => ∃ d kf l k, tm3 = .own (.f d) ∧ s3[i]? = some (some (.dc kf l)) ∧ m3 = ob (dputD kf l d c) k ∧ ∀ l', N (s3.set i (some (.dc kf l'))) (k l'))))) :
    RS F tmp s m (sDPut td ty tv) N Rt := fun σ H De hh nf eo nx rt =>
  h σ H _ hh nf eo fun tm1 s1 v H1 ⟨c, e1, h2⟩ h1 => by
    subst e1
    refine h2 v σ H1 _ h1 nf eo fun tm2 s2 x H2 ⟨i, e2, h4⟩ h3 => ?_
    subst e2
    refine h4 x σ H2 _ h3 nf eo fun tm3 s3 y H3 ⟨d, kf, l, k, e3, hi, em, hk⟩ h5 => ?_
    subst e3
    obtain ⟨c', ec, em'⟩ := ob_cases (by rw [← em]; exact nf)
    unfold dputD at ec
    split at ec
    · rename_i ok
      cases ec
      have hx : σ[i]? = some (some x) := by obtain ⟨G, ω, h6⟩ := h5; exact h6.tm.2.1
      have h6 : Holds F ((y, .own (.f d)) :: (v, .own (.f c)) :: tmp) s3 σ H3 := Holds.dropMid (ex := [(x, .ali i)]) [(y, .own (.f d))] h5
      obtain ⟨a, H', sa, put, h7⟩ := h6.wrDict hi ok.1 ok.2
      rw [hx] at sa; cases sa
      exact ⟨a, H', rfl, put, nx _ σ H' (by rw [em, em']; exact hk _) h7⟩
    · cases ec
end
end VL

namespace VL
open PySem L2
variable [EC]

/-! a call that reads owned things -/
mutual
def T.fl : T → Bool
  | .f d => d.flat
  | .l ds => ds.all D.flat
  | .ll ts => T.fls ts
  | .tt ts => T.fls ts
  | .dc false kvs => kvs.all fun kv => kv.2.flat
  | .dc true _ => false
  | .dl _ ts => T.fls ts
  | .nx _ _ _ => false
  | .no _ _ _ => false
  | .ob _ _ _ => false
  | .hole _ => true
def T.fls : List T → Bool
  | [] => true
  | t :: r => T.fl t && T.fls r
end
theorem Rep.flat {G G' : Hp} : ∀ {d : D} {v : V}, d.flat = true → Rep G d v → Rep G' d v
  | .non, _, _, h => h
  | .bl _, _, _, h => h
  | .int _, _, _, h => h
  | .str _, _, _, h => h
  | .tup _, _, f, _ => by cases f
  | .lst _, _, f, _ => by cases f
  | .dct _ _, _, f, _ => by cases f
  | .opq _, _, f, _ => by cases f
  | .exc _ _, _, f, _ => by cases f
  | .fd _ _ _, _, f, _ => by cases f
  | .fz _, _, f, _ => by cases f
theorem Reps.flat {G G' : Hp} : ∀ {l : List D} {vs : List V}, l.all D.flat = true → Reps G l vs → Reps G' l vs
  | [], _, _, h => h
  | d :: r, _, f, ⟨v, q, e, h, k⟩ => by
    simp only [List.all_cons, Bool.and_eq_true] at f
    exact ⟨v, q, e, Rep.flat f.1 h, Reps.flat f.2 k⟩
theorem RepK.flat {G G' : Hp} : ∀ {l : List (D × D)} {vs : List (Key × V)}, (l.all fun kv => kv.2.flat) = true → RepK G l vs → RepK G' l vs
  | [], _, _, h => h
  | (a, d) :: r, _, f, ⟨kk, v, q, e, ek, h, k⟩ => by
    simp only [List.all_cons, Bool.and_eq_true] at f
    exact ⟨kk, v, q, e, ek, Rep.flat f.1 h, RepK.flat f.2 k⟩
mutual
theorem Own.flat {G G' H H' : Hp} {ω ω' : Addr → Option Lab} : ∀ (p q : Lab) (t : T) (v : V), t.fl = true → (∀ a x, ω a = some (p ++ x) → H' a = H a ∧ ω' a = some (q ++ x)) → Own G H ω p t v → Own G' H' ω' q t v
  | _, _, .f d, v, f, _, h => Rep.flat f h
  | p, q, .l ds, v, f, m, ⟨a, vs, e, h, w, z, r⟩ => by
    obtain ⟨m1, m2⟩ := m a [] (by rw [List.append_nil]; exact w)
    rw [List.append_nil] at m2
    exact ⟨a, vs, e, m1.trans h, m2, z, Reps.flat f r⟩
  | p, q, .ll ts, v, f, m, ⟨a, vs, e, h, w, z, r⟩ => by
    obtain ⟨m1, m2⟩ := m a [] (by rw [List.append_nil]; exact w)
    rw [List.append_nil] at m2
    exact ⟨a, vs, e, m1.trans h, m2, z, Owns.flat p q 0 ts vs f m r⟩
  | p, q, .tt ts, v, f, m, ⟨a, vs, e, h, w, z, r⟩ => by
    obtain ⟨m1, m2⟩ := m a [] (by rw [List.append_nil]; exact w)
    rw [List.append_nil] at m2
    exact ⟨a, vs, e, m1.trans h, m2, z, Owns.flat p q 0 ts vs f m r⟩
  | p, q, .dc false l, v, f, m, ⟨a, kvs, e, w, h, r⟩ => by
    obtain ⟨m1, m2⟩ := m a [] (by rw [List.append_nil]; exact w)
    rw [List.append_nil] at m2
    exact ⟨a, kvs, e, m2, m1.trans h, RepK.flat f r⟩
  | p, q, .dc true l, v, f, m, h => by cases f
  | p, q, .nx _ _ _, v, f, m, h => by cases f
  | p, q, .no _ _ _, v, f, m, h => by cases f
  | p, q, .dl ks ts, v, f, m, ⟨a, kvs, e, w, h, ek, r⟩ => by
    obtain ⟨m1, m2⟩ := m a [] (by rw [List.append_nil]; exact w)
    rw [List.append_nil] at m2
    exact ⟨a, kvs, e, m2, m1.trans h, ek, Owns.flat p q 0 ts _ f m r⟩
  | p, q, .ob _ _ _, v, f, m, h => by cases f
  | _, _, .hole _, _, _, _, h => h
theorem Owns.flat {G G' H H' : Hp} {ω ω' : Addr → Option Lab} : ∀ (p q : Lab) (i : Nat) (ts : List T) (vs : List V), T.fls ts = true → (∀ a x, ω a = some (p ++ x) → H' a = H a ∧ ω' a = some (q ++ x)) → Owns G H ω p i ts vs → Owns G' H' ω' q i ts vs
  | _, _, _, [], _, _, _, h => h
  | p, q, i, t :: ts, _, f, m, ⟨v, r, e, h, k⟩ => by
    simp only [T.fls, Bool.and_eq_true] at f
    exact ⟨v, r, e, Own.flat (p ++ [i]) (q ++ [i]) t v f.1 (fun a x e => by
      rw [List.append_assoc] at e ⊢
      exact m a _ e) h, Owns.flat p q (i + 1) ts r f.2 m k⟩
end
end VL

namespace VL
open PySem L2
variable [EC]

/-! owned lists of owned things -/
section
variable {G G' H H' : Hp} {ω ω' : Addr → Option Lab}
theorem Owns.len : ∀ {ts : List T} {vs : List V} {p : Lab} {i : Nat}, Owns G H ω p i ts vs → ts.length = vs.length
  | [], _, _, _, h => by cases (show _ = [] from h); rfl
  | t :: ts, _, _, _, ⟨v, r, e, _, k⟩ => by subst e; simp [Owns.len k]
theorem Owns.get : ∀ {ts : List T} {vs : List V} {p : Lab} {i j : Nat} {t : T}, Owns G H ω p i ts vs → ts[j]? = some t → ∃ v, vs[j]? = some v ∧ Own G H ω (p ++ [i + j]) t v
  | [], _, _, _, _, _, _, e => by simp at e
  | t0 :: ts, _, _, i, 0, t, ⟨v, r, e, h, k⟩, e2 => by subst e; simp at e2; subst e2; exact ⟨v, rfl, h⟩
  | t0 :: ts, _, _, i, j + 1, t, ⟨v, r, e, h, k⟩, e2 => by
    subst e
    obtain ⟨w, a, b⟩ := Owns.get (j := j) k (by simpa using e2)
    exact ⟨w, by simpa using a, by rwa [show i + (j + 1) = i + 1 + j by omega]⟩
theorem Owns.of : ∀ {ts : List T} {vs : List V} {p : Lab} {i : Nat}, ts.length = vs.length → (∀ (j : Nat) t v, ts[j]? = some t → vs[j]? = some v → Own G H ω (p ++ [i + j]) t v) → Owns G H ω p i ts vs
  | [], [], _, _, _, _ => rfl
  | [], _ :: _, _, _, e, _ => by simp at e
  | _ :: _, [], _, _, e, _ => by simp at e
  | t :: ts, v :: vs, p, i, e, h => ⟨v, vs, rfl, h 0 t v rfl rfl, Owns.of (by simpa using e) fun j t' v' a b => by
      have := h (j + 1) t' v' (by simpa using a) (by simpa using b)
      rwa [show i + (j + 1) = i + 1 + j by omega] at this⟩
end
section
variable {F : Fc} {tmp : Tmp} {s : State} {σ : St} {H : Hp} {v : V} {t : T}
end
section
variable {R : Type} {F : Fc} {tmp : Tmp} {s : State} {m : Res R} {K : Rs R} {N : Rn R} {Rt : Rr R} {ta tb te to ti : TE} {Kf : PySem.W.Frag}
end
end VL

namespace VL
open PySem L2
variable [EC]

/-! what the printed walks use besides -/
def asLst : D → Option (List D) | .lst l => some l | _ => none
def asStr : D → Option (List Nat) | .str x => some x | _ => none
def un2 : D → Option (D × D) | .tup [a, b] => some (a, b) | _ => none
def un3 : D → Option (D × D × D) | .tup [a, b, c] => some (a, b, c) | _ => none
def un4 : D → Option (D × D × D × D) | .tup [a, b, c, d] => some (a, b, c, d) | _ => none
theorem asLst_eq {d : D} {l : List D} (h : asLst d = some l) : d = .lst l := by cases d <;> first | (cases h; rfl) | cases h
theorem asStr_eq {d : D} {l : List Nat} (h : asStr d = some l) : d = .str l := by cases d <;> first | (cases h; rfl) | cases h
theorem un2_eq {d : D} {p : D × D} (h : un2 d = some p) : d = .tup [p.1, p.2] := by
  unfold un2 at h; split at h <;> cases h; rfl
section
variable {R : Type} {F : Fc} {tmp : Tmp} {s : State} {m : Res R} {K : Rs R} {N : Rn R} {Rt : Rr R} {ta tb te to ti td ty : TE} {Kf : PySem.W.Frag}
theorem rs_join {Z : Type} {t : TS} (S : Z → State) (ma : Res Z) (k : Z → Res R) (e : m = rb ma k) (h : RS F tmp s ma t (fun s' m' => ∃ z, m' = .ok z ∧ Sub s' (S z)) (fun _ _ _ => False)) (hn : ∀ z, N (S z) (k z)) : RS F tmp s m t N Rt := fun σ H D hh nf eo nx rt => by
  subst e
  have nf' : ma ≠ .fail := fun z => nf (by rw [z]; rfl)
  refine h σ H D hh nf' (eo.of fun e he => by rw [he]; rfl) (fun s' σ' H' ⟨z, ez, sb⟩ h1 => ?_) fun t s' v σ' H' hk h1 => hk.elim
  refine nx (S z) σ' H' ?_ (h1.sub sb)
  rw [ez]; exact hn z
theorem rs_asgG {te : TE} {g : TG} (is : List Nat) (h : RD F tmp s te m (fun tm s1 m1 => ∃ d, tm = .own (.f d) ∧ RG F tmp s1 m1 is g d N)) : RS F tmp s m (tAsg te g) N Rt := fun σ H De hh nf eo nx rt =>
  h σ H _ hh nf eo fun tm s1 v H1 ⟨d, e, hg⟩ h1 => by
    subst e
    exact hg σ H1 v _ h1 nf eo fun s' σ' H' hk h2 _ _ => nx s' σ' H' hk h2
theorem rg_many {gs : TGs} {n : Nat} {d : D} {is : List Nat} {K : State → Res R → Prop} {ds : List D} (e : d = .tup ds) (hn : ds.length = n)
    (h : ∀ xs, xs.length = n → ∀ σ H Q, Holds F (xs.zip (ds.map fun d => TM.own (.f d)) ++ tmp) s σ H → m ≠ .fail → EOk F m → (∀ s' σ' H', K s' m → Holds F tmp s' σ' H' → (∀ j, j ∉ is → σ'[j]? = σ[j]?) → σ'.length = σ.length → Q σ' H') → gs xs σ H Q) : RG F tmp s m is (gTup Kf n gs) d K := fun σ H v Q hh nf eo q => by
  subst e
  obtain ⟨G, ω, h0⟩ := hh
  obtain ⟨p, vs, e1, g, z, r⟩ := h0.tm.1
  refine ⟨p, vs, e1, .inl (.inl (h0.gH _ _ g)), by rw [← r.length]; exact hn, h vs (by rw [← r.length]; exact hn) σ H Q ⟨G, ω, ?_⟩ nf eo q⟩
  have hp := h0.pop
  have key : ∀ (ds : List D) (vs : List V), Reps G ds vs → Hd F G ω (vs.zip (ds.map fun d => TM.own (.f d)) ++ tmp) s σ H := by
    intro ds
    induction ds with
    | nil => intro vs h; cases (show vs = [] from h); exact hp
    | cons d r ih =>
      intro vs ⟨v, q, e, h, k⟩
      subst e
      exact (ih q k).pushF h
  exact key ds vs r
/-- the targets of an unpacking, one after another -/
def RGs (F : Fc) (tmp : Tmp) (s : State) (m : Res R) (is : List Nat) (gs : TGs) (ds : List D) (K : State → Res R → Prop) : Prop :=
  ∀ xs, xs.length = ds.length → ∀ σ H Q, Holds F (xs.zip (ds.map fun d => TM.own (.f d)) ++ tmp) s σ H → m ≠ .fail → EOk F m → (∀ s' σ' H', K s' m → Holds F tmp s' σ' H' → (∀ j, j ∉ is → σ'[j]? = σ[j]?) → σ'.length = σ.length → Q σ' H') → gs xs σ H Q
theorem rgs_nil {K : State → Res R → Prop} (k : K s m) : RGs F tmp s m [] gNil [] K := fun xs hl σ H Q hh nf eo q => by
  cases xs with
  | nil => exact ⟨rfl, q s σ H k hh (fun _ _ => rfl) rfl⟩
  | cons _ _ => simp at hl
theorem rgs_cons {i : Nat} {is : List Nat} {gs : TGs} {d : D} {ds : List D} {K : State → Res R → Prop} (hi : i < s.length) (na : noAli i tmp = true) (hp : F.pv i = none)
    (h : RGs F tmp (s.set i (some (.f d))) m is gs ds K) : RGs F tmp s m (i :: is) (gCons (gName i) gs) (d :: ds) K := fun xs hl σ H Q hh nf eo q => by
  cases xs with
  | nil => simp at hl
  | cons x r =>
    refine ⟨x, r, rfl, ?_⟩
    have na2 : ∀ (xs : List V) (ds : List D), noAli i (xs.zip (ds.map fun d => TM.own (.f d)) ++ tmp) = true := by
      intro xs
      induction xs with
      | nil => intro ds; exact na
      | cons y q ih =>
        intro ds
        cases ds with
        | nil => exact na
        | cons d' r' => exact ih r'
    have h1 : Holds F ((x, .own (.f d)) :: (r.zip (ds.map fun d => TM.own (.f d)) ++ tmp)) s σ H := hh
    have h2 := h1.store hi (na2 r ds) hp
    refine h r (by simpa using hl) (σ.set i (some x)) H Q h2 nf eo fun s' σ' H' hk h3 hj hl2 => q s' σ' H' hk h3 (fun j hj2 => ?_) (by rw [hl2]; simp)
    have h4 : j ∉ is := fun z => hj2 (List.mem_cons_of_mem _ z)
    have h5 : i ≠ j := fun z => hj2 (by rw [z]; exact List.mem_cons_self)
    rw [hj j h4, List.getElem?_set_ne h5]
theorem rg_un {gs : TGs} {n : Nat} {d : D} {is : List Nat} {K : State → Res R → Prop} {ds : List D} (e : d = .tup ds) (hn : ds.length = n) (h : RGs F tmp s m is gs ds K) : RG F tmp s m is (gTup Kf n gs) d K :=
  rg_many e hn fun xs hx => h xs (hx.trans hn.symm)
theorem rg_n2 {gs : TGs} {d : D} {is : List Nat} {K : State → Res R → Prop} (h : ∃ k, m = ob (un2 d) k ∧ ∀ p : D × D, RGs F tmp s (k p) is gs [p.1, p.2] K) : RG F tmp s m is (gTup Kf 2 gs) d K := fun σ H v Q hh nf eo q => by
  obtain ⟨k, em, h⟩ := h
  obtain ⟨p, ep, em'⟩ := ob_cases (by rw [← em]; exact nf)
  exact rg_un (un2_eq ep) rfl (by have := h p; rw [em, em']; exact this) σ H v Q hh nf eo q
/-- a list of a value that was not known to be one -/
theorem ri_lst {K : Ki R} (h : RD F tmp s ta m (fun tm s1 m1 => ∃ d k, valS s1 tm = some d ∧ m1 = ob (asLst d) k ∧ ∀ ds v, K [(v, tm)] (fun s => valS s tm = valS s1 tm) id ds s1 (k ds))) : RI F tmp s m (iList Kf ta) K := fun σ H Q hh nf eo q => by
  refine ri_list (fun σ H Q' hh' nf' eo' q' => h σ H Q' hh' nf' eo' fun tm s1 v H1 ⟨d, k, ea, em, hk⟩ h1 => q' tm s1 v H1 ?_ h1) σ H Q hh nf eo q
  obtain ⟨ds, ed, em'⟩ := ob_cases (by rw [← em]; exact nf)
  rw [asLst_eq ed] at ea
  exact ⟨ds, ea, fun v => by have := hk ds v; rw [em, em']; exact this⟩
def Fl.on {Z R Q : Type} (o : Fl Z R) (a : Z → Res Q) (b : R → Res Q) : Res Q := match o with | .nx z => a z | .rt r => b r
theorem rs_at {t : TS} (s' : State) (e : s = s') (h : RS F tmp s' m t N Rt) : RS F tmp s m t N Rt := by subst e; exact h
theorem all1 {P : Nat → Prop} {a : Nat} (h : P a) : ∀ i ∈ [a], P i := fun i hi => by
  rw [List.mem_singleton] at hi; subst hi; exact h
theorem all2 {P : Nat → Prop} {a b : Nat} (h : P a) (k : P b) : ∀ i ∈ [a, b], P i := fun i hi => by
  rcases List.mem_cons.mp hi with e | e
  · subst e; exact h
  · rw [List.mem_singleton] at e; subst e; exact k
def lcBodyR (F : Fc) (tmp : Tmp) (S : State) (is : List Nat) (g : TG) (tt : TT) (te : TE) (m : Res (Option D)) (d : D) : Prop :=
  RG F tmp S m is g d (fun s2 m2 => RT F tmp s2 m2 tt (fun b s3 m3 => ∃ ma mb, m3 = (if b = true then ma else mb) ∧
    (b = true → RD F tmp s3 te ma (fun tm s4 m4 => ∃ y, tm = .own (.f y) ∧ m4 = .ok (some y) ∧ Sub s4 S)) ∧ (b = false → mb = .ok none ∧ Sub s3 S)))
theorem rd_sub {R' : Type} {F : Fc} {tmp : Tmp} {s : State} {te : TE} {mr : Res R'} {mu : Res (R' × Unit)} (em : mu = rb mr fun o => .ok (o, ())) {K1 : TM → State → Res R' → Prop} {K2 : TM → State → Res (R' × Unit) → Prop} (h : RD F tmp s te mr K1) (hk : ∀ tm s', K1 tm s' mr → K2 tm s' mu) : RD F tmp s te mu K2 := fun σ H Q hh nf eo q =>
  h σ H Q hh (fun z => nf (by rw [em, z]; rfl)) (eo.of fun e he => by rw [em, he]; rfl) fun tm s' v H' k h1 => q tm s' v H' (hk tm s' k) h1
theorem rd_lcR {wi : TI} {g : TG} {tt : TT} {vs : List Nat} (is : List Nat) (hv : ∀ i ∈ is, i ∈ vs) (hp : ∀ i ∈ vs, F.pv i = none)
    (h : RI F tmp s m wi (fun ex P pb ds s1 m1 => ∃ (S : State) (f : D → Res (Option D)) (k : List D → Res R), m1 = rb (fmR ds f) k ∧ Sub s1 S ∧ P S ∧ (∀ i ∈ vs, S[i]? = some none) ∧ noAlis vs (ex ++ tmp) = true ∧
      (∀ d lv acc, lcBodyR F ((lv, .own (.l acc)) :: (ex ++ tmp)) S is g tt te (f d) d) ∧ ∀ ys, K (.own (.l ys)) (pb S) (k ys))) : RD F tmp s (tLc wi g tt te vs) m K :=
  rd_lc (Z := Unit) is hv hp fun σ H Q hh nf eo q => h σ H Q hh nf eo fun ex P pb ds s1 J H1 ⟨S, f, k, em, sb, hP, hS, na, body, fin⟩ => q ex P pb ds s1 J H1 ⟨fun _ => S, (), fun _ d => rb (f d) fun o => .ok (o, ()), fun p => k p.1, by
      rw [fmR_fmS, em]
      cases fmR ds f <;> rfl, sb, fun _ => hP, fun _ => hS, na, fun z d lv acc => by
      have b := body d lv acc
      intro σ2 H2 v2 Q2 hh2 nf2 eo2 q2
      have nf3 : f d ≠ .fail := fun z => nf2 (by show rb (f d) _ = _; rw [z]; rfl)
      have eo3 : EOk F (f d) := eo2.of fun e he => by show rb (f d) _ = _; rw [he]; rfl
      refine b σ2 H2 v2 Q2 hh2 nf3 eo3 fun s3 σ3 H3 hk hh3 hj hl => q2 s3 σ3 H3 ?_ hh3 hj hl
      intro σ4 H4 Q4 hh4 nf4 eo4 q4
      refine hk σ4 H4 Q4 hh4 nf3 eo3 fun b s5 H5 ⟨ma, mb, eb, hT, hF⟩ hh5 => q4 b s5 H5 ⟨rb ma fun o => .ok (o, ()), rb mb fun o => .ok (o, ()), ?_, fun hb => ?_, fun hb => ?_⟩ hh5
      · show rb (f d) _ = _
        rw [eb]; cases b <;> rfl
      · refine rd_sub rfl (hT hb) fun tm s6 ⟨y, e1, e2, e3⟩ => ⟨y, (), e1, by rw [e2]; rfl, e3⟩
      · obtain ⟨e1, e2⟩ := hF hb
        exact ⟨(), by rw [e1]; rfl, e2⟩, fun p => fin p.1⟩
theorem rd_idx (h : RD F tmp s to m (fun tm1 s1 m1 => ∃ d k, valS s1 tm1 = some d ∧ m1 = ob (asLst d) k ∧ ∀ l0 x, RD F ((x, tm1) :: tmp) s1 te (k l0) (fun tm2 s2 m2 => ∃ a b k, valS s2 tm1 = some a ∧ valS s2 tm2 = some b ∧ m2 = ob (indexD a b) k ∧ ∀ c, K (.own (.f c)) s2 (k c)))) :
    RD F tmp s (tBM Kf "list" (rIndex Kf) to (tCons te tNil)) m K := rd_index fun σ H Q hh nf eo q => h σ H Q hh nf eo fun tm s1 v H1 ⟨d, k, ea, em, hk⟩ h1 => q tm s1 v H1 (by
      obtain ⟨ds, ed, em'⟩ := ob_cases (by rw [← em]; exact nf)
      rw [asLst_eq ed] at ea
      exact ⟨ds, ea, fun x => by have := hk ds x; rw [em, em']; exact this⟩) h1
theorem rd_jn (h : RD F tmp s to m (fun tm1 s1 m1 => ∃ d k, valS s1 tm1 = some d ∧ m1 = ob (asStr d) k ∧ ∀ l0 x, RD F ((x, tm1) :: tmp) s1 te (k l0) (fun tm2 s2 m2 => ∃ a b k, valS s2 tm1 = some a ∧ valS s2 tm2 = some b ∧ m2 = ob (joinD a b) k ∧ ∀ c, K (.own (.f c)) s2 (k c)))) :
    RD F tmp s (tM1 (fun x xs H Q => ∃ a p ys, x = V.str a ∧ xs = [V.ref p] ∧ (SqL Kf H p (List.map V.str ys) ∨ SqT Kf H p (List.map V.str ys)) ∧ (List.map (fun x : Str => x.length) ys).sum + ys.length * a.length ≤ 16777216 ∧ Q (V.str (Txt.join a ys)) H) to te) m K :=
  rd_join fun σ H Q hh nf eo q => h σ H Q hh nf eo fun tm s1 v H1 ⟨d, k, ea, em, hk⟩ h1 => q tm s1 v H1 (by
      obtain ⟨p, ed, em'⟩ := ob_cases (by rw [← em]; exact nf)
      rw [asStr_eq ed] at ea
      exact ⟨⟨p, ea⟩, fun x => by have := hk p x; rw [em, em']; exact this⟩) h1
/-- x += e, whole numbers -/
theorem rs_aug {i : Nat} {d0 : D} {te : TE} (hs : s[i]? = some (some (.f d0))) (na : noAli i tmp = true) (hp : F.pv i = none) (h : RD F tmp s te m (fun tm s1 m1 => ∃ d k, valS s1 tm = some d ∧ s1.length = s.length ∧ m1 = ob (match d0, d with | .int a, .int b => some (D.int (a + b)) | _, _ => none) k ∧ ∀ c, N (s1.set i (some (.f c))) (k c))) :
    RS F tmp s m (tAug i te (ipI fun i j => i + j)) N Rt := fun σ H De hh nf eo nx rt => by
  have h0 := hh
  obtain ⟨G, ω, h1⟩ := h0
  obtain ⟨v, e, o⟩ := h1.sl i _ hs
  have hil : i < s.length := (List.getElem?_eq_some_iff.mp hs).1
  refine ⟨v, e, h σ H _ hh nf eo fun tm s1 y H1 ⟨d, k, ea, hl, em, hk⟩ h2 => ?_⟩
  obtain ⟨c, ec, em'⟩ := ob_cases (by rw [← em]; exact nf)
  cases d0 <;> cases d <;> try (cases ec; done)
  cases ec
  have h3 := h2
  obtain ⟨G2, ω2, h2⟩ := h2
  have ry := h2.repC h2.tm.1 ea
  refine ⟨_, _, o, ry, nx _ _ _ (by rw [em, em']; exact hk _) ((holds_push (d := .int _) h3.pop fun _ => rfl).store (by rw [hl]; exact hil) na hp)⟩
/-- one pair written -/
theorem rd_disp1 {tk tv : TE} (h : ∀ p, RD F ((p, .own (.dc false [])) :: tmp) s tk m (fun tm1 s1 m1 => ∀ x, RD F ((x, tm1) :: (p, .own (.dc false [])) :: tmp) s1 tv m1 (fun tm2 s2 m2 => ∃ dk dv k, tm1 = .own (.f dk) ∧ tm2 = .own (.f dv) ∧ m2 = (if (keyK dk).isSome = true then k else .fail) ∧ K (.own (.dc false [(dk, dv)])) s2 k))) : RD F tmp s (tDisp [(tk, tv)]) m K := fun σ H Q hh nf eo q => fun p np => by
  have hn : Holds F ((.ref p, .own (.dc false [])) :: tmp) s σ (upd H p (.dK [])) := by
    obtain ⟨G, ω, h⟩ := hh
    exact ⟨G, _, h.newO np ⟨p, [], rfl, by simp, upd_same, rfl⟩⟩
  refine h (.ref p) σ _ _ hn nf eo fun tm1 s1 x H1 h2 h1 => h2 x σ H1 _ h1 nf eo fun tm2 s2 y H2 ⟨dk, dv, k, e1, e2, em, hk⟩ h3 => ?_
  subst e1; subst e2
  have hok : (keyK dk).isSome = true := by
    refine Decidable.byContradiction fun z => ?_
    rw [if_neg z] at em
    exact nf em
  rw [if_pos hok] at em
  obtain ⟨kk, hkk⟩ := Option.isSome_iff_exists.mp hok
  obtain ⟨G, ω, h4⟩ := h3
  have ry := h4.tm.1
  have rx := h4.tm.2.1
  obtain ⟨a, kvs, e3, hw, ha, hr⟩ := h4.tm.2.2.1
  cases e3
  cases (show kvs = [] from hr)
  have own : Own G (upd H2 p (.dK (mergeK [] [(kk, y)]))) ω [1, tmp.length] (.dc false [(dk, dv)]) (.ref p) := ⟨p, mergeK [] [(kk, y)], rfl, hw, upd_same, kk, y, [], rfl, keyK_kD hkk, ry, rfl⟩
  refine ⟨ha, [(kk, y)], by rw [show x = kV kk from rep_key hkk (Rep.mono h4.gH _ _ rx)]; rfl, by show 1 ≤ 15; omega, ?_⟩
  refine q _ s2 _ _ (by rw [em]; exact hk) ⟨G, ω, Hd.wr (tmp' := (.ref p, .own (.dc false [(dk, dv)])) :: tmp) h4.pop.pop.pop hw _ rfl (fun j u e => ?_) ⟨own, Tms.wrO hw tmp (fun j hj => ?_) h4.tm.2.2.2⟩⟩
  · obtain ⟨v', b1, b2⟩ := h4.sl j u e
    exact ⟨v', b1, Own.wrO hw (by simp [pre]) b2⟩
  · have : ¬ j = tmp.length := by omega
    simp [pre, this]
end
end VL

namespace VL
open PySem L2
variable [EC]
def nnD (a b : D) : Option Bool := match b with | .non => (isNoneD a).map not | _ => none
theorem o_nn : Op2B (fun x y H Q => y = .non ∧ Q (.bl (!decide (x = .non))) H) nnD := o_notN
def augD (a b : D) : Option D := match a, b with | .int a, .int b => some (D.int (a + b)) | _, _ => none
section
variable {R : Type} {F : Fc} {tmp : Tmp} {s : State} {m : Res R} {K : Rs R} {N : Rn R} {Rt : Rr R} {ta tb te to ti td ty : TE} {Kf : PySem.W.Frag}
theorem rs_augD {i : Nat} {d0 : D} {te : TE} (hs : s[i]? = some (some (.f d0))) (na : noAli i tmp = true) (hp : F.pv i = none) (h : RD F tmp s te m (fun tm s1 m1 => ∃ d k, valS s1 tm = some d ∧ s1.length = s.length ∧ m1 = ob (augD d0 d) k ∧ ∀ c, N (s1.set i (some (.f c))) (k c))) :
    RS F tmp s m (tAug i te (ipI fun i j => i + j)) N Rt := rs_aug hs na hp h
end
theorem hu_1 {k : Nat} {A : Around} (r : Room k A) : A.units + 1 < cLine := by have := r.un; omega
theorem hu_64 {k : Nat} {A : Around} (r : Room k A) : A.units + 64 < cLine := by have := r.un; omega
def FU : Nat := 1000000
/-! rules with the written part named -/
section
variable {X : Cx} {Kf : PySem.W.Frag}
theorem ix_anyK (hK : X.K = Kf) : IxR X (rIxA Kf) := hK ▸ ix_any
theorem sl_listK (hK : X.K = Kf) : SlR X (rSlL Kf) := hK ▸ sl_list
theorem mt_indexK (hK : X.K = Kf) : MtR X "list.index" (rIndex Kf) := hK ▸ mt_index
theorem op_notInK (hK : X.K = Kf) : OpR X (compareOp .NotIn) (rNotInA Kf) := hK ▸ op_notInA
theorem call_lenK (hK : X.K = Kf) : CallR X (.builtin "len") (rLen Kf) := by subst hK; exact call_len
theorem call_listK (hK : X.K = Kf) : CallR X (.type "list") (rList Kf) := by subst hK; exact call_list_of
theorem call_isiK' (hK : X.K = Kf) : CallR X (.builtin "isinstance") (rIsi Kf) := by subst hK; exact call_isi
theorem pi_listK {tg l : Expr} {tl : TE} (hK : X.K = Kf) (hl : PE X l tl) : PI X tg l (iList Kf tl) := hK ▸ pi_list hl
theorem pg_tupK {es : List Expr} {k : Nat} {t : TGs} {n : Nat} {pos : Pos} (hK : X.K = Kf) (hc : X.calm = true) (h : PGs X es t)
    (hn : (assignEach es X.env).length = n := by rfl) (hst : (assignEach es X.env).findIdx? (·.1) = none := by rfl) : PG X (.Tuple es k pos) (gTup Kf n t) := hK ▸ pg_tup hc h hn hst
theorem pe_bmK {o e : Expr} {es : List Expr} {to : TE} {t : TA} {name : Str} {apos cpos : Pos} {T id : String} {r : V → List V → Hp → VK → Prop} (hK : X.K = Kf) (pa : PlainAttrs T) (slot : Slot T name id) (hty : typeOf (.builtin id) = pure (.type "method_descriptor")) (hm : MtR X id r) (ho : PE X o to) (ha : PA X (e :: es) t)
    (hbase : attributeBase o name X.env (eval o X.env) = eval o X.env := by rfl)
    (hfew : ((backTo cpos (starEach (e :: es) X.env)).all (fun x => !x.1) && (backToKw cpos (keywordEach [] X.env)).all (fun x => x.1.isSome)
      && decide ((e :: es).length + ([] : List Keyword).length + (if ([] : List Keyword).isEmpty then 0 else 1) < 30)) = true := by rfl)
    (hline : (apos.endLine == cpos.line) = true := by rfl) (hs : starEach (e :: es) X.env = (false, eval e X.env) :: starEach es X.env := by rfl) (hplain : (backTo cpos (starEach es X.env)).any (·.1) = false := by rfl) :
    PE X (.Call (.Attribute o name apos) (e :: es) [] cpos) (tBM Kf T r to t) := hK ▸ pe_bm pa slot hty hm ho ha hbase hfew hline hs hplain
def rJoin (Kf : PySem.W.Frag) : V → List V → Hp → VK → Prop := fun x xs H Q => ∃ a p ys, x = V.str a ∧ xs = [V.ref p] ∧ (SqL Kf H p (List.map V.str ys) ∨ SqT Kf H p (List.map V.str ys)) ∧ (List.map (fun x : Str => x.length) ys).sum + ys.length * a.length ≤ 16777216 ∧ Q (V.str (Txt.join a ys)) H
theorem pe_joinK {o e : Expr} {to te : TE} {apos pos : Pos} (hK : X.K = Kf) (ho : PE X o to) (he : PE X e te) (hs : starEach [e] X.env = [(false, eval e X.env)] := by rfl) (hbase : attributeBase o "join" X.env (eval o X.env) = eval o X.env := by rfl) (hline : (apos.endLine == pos.line) = true := by rfl) :
    PE X (.Call (.Attribute o "join" apos) [e] [] pos) (tM1 (rJoin Kf) to te) := by subst hK; exact pe_join ho he hs hbase hline
end
end VL

namespace VL
open PySem L2
variable [EC]
/-! the script -/
def noL (o : Obj) : Bool := match o.cls with | .type t => !(t == "list") | _ => true
theorem lookup_mem {K : PySem.W.Frag} {a : Addr} {o : Obj} : K.lookup a = some o → (a, o) ∈ K := by
  induction K with
  | nil => intro h; cases h
  | cons p r ih =>
    intro h
    rw [List.lookup_cons] at h
    split at h
    · rename_i e
      cases h
      have : a = p.1 := by simpa using e
      subst this
      exact List.mem_cons_self
    · exact List.mem_cons_of_mem _ (ih h)
theorem noL_rd {K : PySem.W.Frag} {H : Hp} {a : Addr} {xs : List V} (h : (K.all fun p => noL p.2) = true) (hS : SqL K H a xs) : Rd H a (.lst xs) := by
  rcases hS with r | ⟨o, its, n, e, c, _⟩
  · exact r
  · have := List.all_eq_true.mp h _ (lookup_mem e)
    simp only [noL, c] at this
    exact absurd this (by decide)
theorem reps_ints {G : Hp} : ∀ ns : List Int, Reps G (ns.map D.int) (ns.map V.int)
  | [] => rfl
  | i :: r => ⟨.int i, r.map V.int, rfl, rfl, reps_ints r⟩
theorem law_end {K : PySem.W.Frag} {H : Hp} {a : Addr} {ns : List Int} {E : XK} {mir : D → Res D} (h : (K.all fun p => noL p.2) = true) (hl : ns.length ≤ 63) (hS : SqL K H a (ns.map V.int)) (hm : mir (.lst (ns.map .int)) = .ok (.bl true)) :
    spOf (A := D) (R := D) EC.ec (fun a => [.f a]) (fun a => mir a) (fun r => .f r) (fun r => [none]) [.ref a] H (fun v _ => v = .bl true) E := by
  refine ⟨.lst (ns.map .int), H, fun _ => none, Same.refl _, fun x p e => absurd e (by simp), rfl, fun k t e => ?_, ?_, fun r v H' e p => ?_, fun e od H' z => ?_⟩
  · match k, e with
    | 0, e =>
      cases e
      refine ⟨.ref a, rfl, a, ns.map V.int, rfl, noL_rd h hS, ?_, reps_ints ns⟩
      rw [List.length_map, sizeLine_eq]; omega
    | k + 1, e => simp at e
  · show mir _ ≠ _
    rw [hm]; intro z; cases z
  · have e' : mir (.lst (ns.map .int)) = .ok r := e
    rw [hm] at e'
    cases e'
    obtain ⟨G', w', _, _, o, _⟩ := p
    exact o
  · have z' : mir (.lst (ns.map .int)) = .err e := z
    rw [hm] at z'; cases z'
end VL

namespace VL
open PySem L2
/-! mathematics of mirrors -/
def Sat {R : Type} (m : Res R) (P : R → Prop) : Prop := ∃ r, m = .ok r ∧ P r
section
variable {R S Z : Type}
theorem sat_rb {ma : Res S} {k : S → Res R} {P : S → Prop} {Q : R → Prop} (h : Sat ma P) (hk : ∀ r, P r → Sat (k r) Q) : Sat (rb ma k) Q := by
  obtain ⟨r, rfl, p⟩ := h; exact hk r p
theorem sat_ob {o : Option S} {c : S} {k : S → Res R} {Q : R → Prop} (e : o = some c) (h : Sat (k c) Q) : Sat (ob o k) Q := by subst e; exact h
theorem sat_ok {r : R} {P : R → Prop} (h : P r) : Sat (.ok r) P := ⟨r, rfl, h⟩
theorem Sat.mono {m : Res R} {P Q : R → Prop} (h : Sat m P) (i : ∀ r, P r → Q r) : Sat m Q := by obtain ⟨r, e, p⟩ := h; exact ⟨r, e, i r p⟩
theorem of_sat {m : Res R} {r : R} (h : Sat m (fun x => x = r)) : m = .ok r := by obtain ⟨x, e, p⟩ := h; rw [e, p]
theorem sat_rbe {ma : Res S} {r : S} {k : S → Res R} {Q : R → Prop} (h : ma = .ok r) (hk : Sat (k r) Q) : Sat (rb ma k) Q := by subst h; exact hk
theorem sat_if {c : Prop} [Decidable c] {a b : Res R} {Q : R → Prop} (h1 : c → Sat a Q) (h2 : ¬ c → Sat b Q) : Sat (if c then a else b) Q := by
  by_cases h : c
  · rw [if_pos h]; exact h1 h
  · rw [if_neg h]; exact h2 h
theorem sat_forN {f : Z → D → Res Z} {I : Nat → Z → Prop} : ∀ (ds : List D) (z0 : Z) (n : Nat), I n z0 → (∀ i z d, ds[i]? = some d → I (n + i) z → Sat (f z d) (I (n + i + 1))) → Sat (forN ds z0 f) (I (n + ds.length))
  | [], z0, n, h0, _ => ⟨z0, rfl, h0⟩
  | d :: r, z0, n, h0, h => by
    refine sat_rb (h 0 z0 d rfl h0) fun z hz => ?_
    have := sat_forN r z (n + 1) hz fun i z d e hi => by
      have := h (i + 1) z d (by simpa using e) (by rw [show n + (i + 1) = n + 1 + i by omega]; exact hi)
      rwa [show n + (i + 1) = n + 1 + i by omega] at this
    rwa [show n + 1 + r.length = n + (d :: r).length by simp; omega] at this
theorem sat_forL {f : Z → D → Res (Fl Z R)} {I : Nat → Z → Prop} : ∀ (ds : List D) (z0 : Z) (n : Nat), I n z0 → (∀ i z d, ds[i]? = some d → I (n + i) z → Sat (f z d) (fun o => ∃ z', o = .nx z' ∧ I (n + i + 1) z')) → Sat (forL ds z0 f) (fun o => ∃ z', o = .nx z' ∧ I (n + ds.length) z')
  | [], z0, n, h0, _ => ⟨_, rfl, z0, rfl, h0⟩
  | d :: r, z0, n, h0, h => by
    refine sat_rb (h 0 z0 d rfl h0) fun o hz => ?_
    obtain ⟨z, rfl, hz⟩ := hz
    have := sat_forL r z (n + 1) hz fun i z d e hi => by
      have := h (i + 1) z d (by simpa using e) (by rw [show n + (i + 1) = n + 1 + i by omega]; exact hi)
      rwa [show n + (i + 1) = n + 1 + i by omega] at this
    rwa [show n + 1 + r.length = n + (d :: r).length by simp; omega] at this
theorem sat_forL0 {f : Z → D → Res (Fl Z R)} {I : Z → Prop} {ds : List D} {z0 : Z} (h0 : I z0) (h : ∀ z d, d ∈ ds → I z → Sat (f z d) (fun o => ∃ z', o = .nx z' ∧ I z')) : Sat (forL ds z0 f) (fun o => ∃ z', o = .nx z' ∧ I z') :=
  sat_forL (I := fun _ => I) ds z0 0 h0 fun i z d e hi => h z d (List.mem_of_getElem? e) hi
end
/-! values -/
theorem atI_n {α : Type} (xs : List α) (j : Nat) : atI xs ((j : Nat) : Int) = xs[j]? := by
  unfold atI ixN
  rw [if_pos (by omega)]
  by_cases h : (j : Int) < xs.length
  · rw [if_pos h]; simp
  · rw [if_neg h]; simp; omega
theorem ix_l {l : List D} {i : Nat} {d : D} (h : l[i]? = some d) : ixD (.lst l) (.int (i : Nat)) = some d := by
  show atI l _ = _
  rw [atI_n]; exact h
theorem ix_t {l : List D} {i : Nat} {d : D} (h : l[i]? = some d) : ixD (.tup l) (.int (i : Nat)) = some d := by
  show atI l _ = _
  rw [atI_n]; exact h
theorem ix_s {s : List Nat} {i c : Nat} (h : s[i]? = some c) (hl : s.length ≤ 16777216) : ixD (.str s) (.int (i : Nat)) = some (.str [c]) := by
  show (if s.length ≤ 16777216 then (atI s _).map _ else none) = _
  rw [if_pos hl, atI_n, h]; rfl
theorem rng0 {n : Nat} (h : n ≤ 16777216) : rngD (.int 0) (.int (n : Nat)) = some ((List.range n).map fun k => .int (k : Nat)) := by
  show (if _ then _ else _) = _
  rw [if_pos (by omega)]
  simp
theorem ap_l {l : List D} {d : D} (h : l.length < 16777216) : apL l d = some (l ++ [d]) := if_pos h
theorem cut_to {α : Type} (l : List α) (n : Nat) (h : n ≤ l.length) : cut l none (some (n : Nat)) = l.take n := by
  unfold cut
  rw [HT.sIx_nat, HT.sIx_none, Nat.min_eq_left h]; simp
theorem cut_from {α : Type} (l : List α) (n : Nat) (h : n ≤ l.length) : cut l (some (n : Nat)) none = l.drop n := by
  unfold cut
  rw [HT.sIx_nat, HT.sIx_none, Nat.min_eq_left h]
  rw [List.take_of_length_le (by rw [List.length_drop]; omega)]
theorem add_s {a b : List Nat} (h : a.length + b.length ≤ 16777216) : addD (.str a) (.str b) = some (.str (a ++ b)) := if_pos h
theorem len_s {a : List Nat} (h : a.length ≤ 16777216) : lenD (.str a) = some (.int a.length) := if_pos h
theorem mod_i {a b : Int} (h : 0 < b) : modD (.int a) (.int b) = some (.int (a % b)) := if_pos h
theorem fdiv_i {a b : Int} (h : 0 < b ∧ b < 1073741824) : fdivD (.int a) (.int b) = some (.int (a / b)) := if_pos h
theorem mul_l {a b : Int} (h : -18446744073709551616 < a ∧ a < 18446744073709551616) : mulD (.int a) (.int b) = some (.int (a * b)) := if_pos (.inl h)
theorem mul_r {a b : Int} (h : -18446744073709551616 < b ∧ b < 18446744073709551616) : mulD (.int a) (.int b) = some (.int (a * b)) := if_pos (.inr h)
theorem add_i {a b : Int} : addD (.int a) (.int b) = some (.int (a + b)) := rfl
theorem eq_str {a b : List Nat} : eqD (.str a) (.str b) = some (a == b) := by
  unfold eqD
  rw [if_pos ⟨rfl, rfl, Nat.zero_le _⟩]
  simp [D.eqv]
theorem ne_str {a b : List Nat} : neD (.str a) (.str b) = some (!(a == b)) := by
  unfold neD; rw [eq_str]; rfl
theorem eq_nil {l : List D} (p : D.plains l = true) : eqD (.lst l) (.lst []) = some l.isEmpty := by
  unfold eqD
  rw [if_pos ⟨by simpa [D.plain] using p, rfl, by simp [D.dep, D.deps]⟩]
  cases l <;> rfl
theorem plains_iff : ∀ {l : List D}, D.plains l = true ↔ ∀ d ∈ l, d.plain = true
  | [] => by simp [D.plains]
  | d :: r => by simp [D.plains, plains_iff (l := r)]
theorem deps_le : ∀ {l : List D} {n : Nat}, (∀ d ∈ l, d.dep ≤ n) → D.deps l ≤ n
  | [], _, _ => Nat.zero_le _
  | d :: r, n, h => by
    simp only [D.deps]
    have := h d List.mem_cons_self
    have := deps_le (l := r) fun x hx => h x (List.mem_cons_of_mem _ hx)
    omega
variable [EC]
end VL

/-! zip of a list and a text; its pairs as a dict's argument -/
namespace PySem.ZS
open PySem

theorem siAt {h h' : Heap} {a : Addr} {ty : String} {x : Str} {t : Tok} {i : Nat} (y : h.IsStrIter a ty x t i) (k : ∀ o, h.get? a = some o → h'.get? a = some o) : h'.IsStrIter a ty x t i :=
  let ⟨o, e, r⟩ := y; ⟨o, k o e, r⟩
abbrev hA (h : Heap) (l : Addr) : Heap := h.push { cls := .type "list_iterator", data := .fields #[.ref l, .int 0 0] }
abbrev hB (h : Heap) (l : Addr) (x : Str) (t : Tok) : Heap := (hA h l).push { cls := .type (strIterType x), data := .fields #[.str x t, .int 0 0] }
abbrev hC (h : Heap) (l : Addr) (x : Str) (t : Tok) : Heap := (hB h l x t).push { cls := .type "tuple", data := .seq #[.ref h.objs.size, .ref (hA h l).objs.size] }
abbrev hD (h : Heap) (l : Addr) (x : Str) (t : Tok) : Heap := (hC h l x t).push { cls := .type "tuple", data := .seq #[.none, .none] }
abbrev hE (h : Heap) (l : Addr) (x : Str) (t : Tok) : Heap := (hD h l x t).push { cls := .type "zip", data := .fields #[.none, .bool false, .bool false, .ref (hB h l x t).objs.size, .ref (hC h l x t).objs.size] }
set_option maxHeartbeats 2000000 in
theorem made (l : Addr) (xs : Array Value) (x : Str) (t : Tok) :
    Meets (Builtin.«zip.__new__» ⟨[.type "zip", .ref l, .str x t], []⟩) (fun _ R s => s.heap.IsList l xs ∧ R (.ok (.ret (.ref (hD s.heap l x t).objs.size))) { s with heap := hE s.heap l x t }) :=
  .of_wp fun prog w A R s h => by
    obtain ⟨hp, g, d, tk, os⟩ := s; obtain ⟨hl, h⟩ := h; have hsub := sub_zip
    have hL : Heap.IsList (Shared.heap ⟨hp, g, d, tk, os⟩) l xs := hl
    wp_walk using wpAny_pyIter_list hL, wpAny_pyIter_strU
    exact ⟨_, rfl, h⟩
section
variable {prog : Program} {w : World} {A : Around} {E : Value → Shared → Prop} {s : Shared}
theorem call {l : Addr} {xs : Array Value} {x : Str} {t : Tok} {Q : Value → Shared → Prop} (hl : s.heap.IsList l xs)
    (h : ∀ h', IsZip h' (s.heap.objs.size + 4) (s.heap.objs.size + 2) (s.heap.objs.size + 3) .none → IsPair h' (s.heap.objs.size + 2) (.ref s.heap.objs.size) (.ref (s.heap.objs.size + 1)) → IsPair h' (s.heap.objs.size + 3) .none .none →
      h'.IsListIter s.heap.objs.size l 0 → h'.IsStrIter (s.heap.objs.size + 1) (strIterType x) x t 0 → h'.objs.size = s.heap.objs.size + 5 → (∀ c o, s.heap.get? c = some o → h'.get? c = some o) → Q (.ref (s.heap.objs.size + 4)) { s with heap := h' }) :
    wpAny (model prog w) A (PySem.call (.type "zip") [.ref l, .str x t]) Q E s := by
  refine callType_new F.called_zip (by decide) (F.typeCall_zip_2 _ _) (F.newCall_zip_2 _ _) (fun obj => F.args_object_init_3 obj _ _) F.entry_zip_new (made l xs x t) ⟨hl, ?_⟩
  have a1 : (hA s.heap l).objs.size = s.heap.objs.size + 1 := Heap.size_push ..
  have a2 : (hB s.heap l x t).objs.size = s.heap.objs.size + 2 := by rw [Heap.size_push, a1]
  have a3 : (hC s.heap l x t).objs.size = s.heap.objs.size + 3 := by rw [Heap.size_push, a2]
  have a4 : (hD s.heap l x t).objs.size = s.heap.objs.size + 4 := by rw [Heap.size_push, a3]
  have a5 : (hE s.heap l x t).objs.size = s.heap.objs.size + 5 := by rw [Heap.size_push, a4]
  have b5 : (hE s.heap l x t).get? (hD s.heap l x t).objs.size = some _ := Heap.get?_push_size _ rfl
  have b4 : (hE s.heap l x t).get? (hC s.heap l x t).objs.size = some _ := Heap.get?_push_of_some _ (Heap.get?_push_size _ rfl)
  have b3 : (hE s.heap l x t).get? (hB s.heap l x t).objs.size = some _ := Heap.get?_push_of_some _ (Heap.get?_push_of_some _ (Heap.get?_push_size _ rfl))
  have b2 : (hE s.heap l x t).get? (hA s.heap l).objs.size = some _ := Heap.get?_push_of_some _ (Heap.get?_push_of_some _ (Heap.get?_push_of_some _ (Heap.get?_push_size _ rfl)))
  have b1 : (hE s.heap l x t).get? s.heap.objs.size = some _ := Heap.get?_push_of_some _ (Heap.get?_push_of_some _ (Heap.get?_push_of_some _ (Heap.get?_push_of_some _ (Heap.get?_push_size _ rfl))))
  show _ ∧ _
  rw [a2, a3, a4] at b5; rw [a1, a2] at b3; rw [a3] at b4; rw [a1] at b2; rw [a4]
  exact ⟨⟨_, b5, rfl⟩, h _ b5 b3 b4 ⟨_, b1, rfl, rfl⟩ ⟨_, b2, rfl, rfl⟩ a5 fun c o y => Heap.get?_push_of_some _ (Heap.get?_push_of_some _ (Heap.get?_push_of_some _ (Heap.get?_push_of_some _ (Heap.get?_push_of_some _ y))))⟩
end
end PySem.ZS

namespace PySem.ZS
open PySem PySem.W
abbrev Asc : String := "str_ascii_iterator"
section
variable {prog : Program} {w : World} {A : Around} {E : Value → Shared → Prop} {s : Shared} {z TI TO T i1 i2 l : Addr} {k : Nat} {xs : Array Value} {x a b : Value} {y : Str} {t : Tok} {c : Nat} {f : Bool} {oT : Obj}
theorem itemF {Q : Value → Shared → Prop} (D : ZipApart z TI TO i1 i2 l l) (hz : IsZip s.heap z TI TO .none) (hTI : IsPair s.heap TI (.ref i1) (.ref i2)) (hTO : IsPair s.heap TO a b) (h1 : s.heap.IsListIter i1 l k) (h2 : s.heap.IsStrIter i2 Asc y t k) (hl : s.heap.IsList l xs) (hx : xs[k]? = some x) (hy : y.cps[k]? = some c)
    (hQ : ∀ h', IsZip h' z TI TO (rawInt s.heap.objs.size) → IsPair h' TO x (.str ⟨#[c]⟩ s.toks) → h'.IsListIter i1 l (k + 1) → h'.IsStrIter i2 Asc y t (k + 1) → IsPair h' s.heap.objs.size x (.str ⟨#[c]⟩ s.toks) → h'.objs.size = s.heap.objs.size + 1 →
      (∀ j o, j ≠ z → j ≠ TO → j ≠ i1 → j ≠ i2 → s.heap.get? j = some o → h'.get? j = some o) → Q (.ref s.heap.objs.size) { s with heap := h', toks := s.toks + 1 }) :
    wpAny (model prog w) A (Builtin.«zip.__next__» ⟨[.ref z], []⟩) (fun fin s' => ∃ v, fin = .done (.ret v) ∧ Q v s') E s := by
  show wpAny _ _ (field (.ref z) 2 >>= _) _ _ _; refine wpAny_bind (wpAny_field hz rfl (x := .bool false) rfl ?_)
  show wpAny _ _ (field (.ref z) 3 >>= _) _ _ _; refine wpAny_bind (wpAny_field hz rfl (x := .ref TI) rfl (wpAny_bind (wpAny_seqItems hTI rfl ?_)))
  show wpAny _ _ (Builtin.SmallTypes.ownedTupleIsFree (.ref z) >>= _) _ _ _; refine wpAny_bind ?_; unfold Builtin.SmallTypes.ownedTupleIsFree
  refine wpAny_bind (wpAny_field hz rfl (x := .none) rfl (wpAny_pure ?_)); simp only [if_true]
  refine wpAny_bind (wpAny_rule (wpAny_bind (wpAny_field hz rfl (x := .ref TO) rfl (wpAny_bind (wpAny_setField_rec hz (by simp) fun g1 z1 s1 => ?_)))))
  replace z1 : IsZip g1 z TI TO .ellipsis := z1
  refine wpAny_bind ?_; simp only [List.zipIdx_cons, List.zipIdx_nil, List.forIn_cons, List.forIn_nil]
  refine wpAny_bind (wpAny_bind (wpAny_onRaise ?_)); show wpAny _ _ (Builtin.SmallTypes.nextOf (.ref i1) >>= _) _ _ _
  refine wpAny_bind (wpAny_nextOf_list_item (h1.extBut s1.extBut D.i1z) (hl.extBut s1.extBut D.l1z) hx fun g2 p1 s2 => wpAny_pure ?_)
  have o2 : IsPair g2 TO a b := s2.extBut _ _ D.TOi1 (s1.extBut _ _ D.TOz hTO)
  refine wpAny_bind (wpAny_seqItems o2 rfl (wpAny_bind (wpAny_updateSeq_pair o2 fun g3 o3 s3 => ?_))); replace o3 : IsPair g3 TO x b := o3
  refine wpAny_bind (wpAny_letGo (wpAny_pure (wpAny_bind (wpAny_bind (wpAny_onRaise ?_))))); show wpAny _ _ (Builtin.SmallTypes.nextOf (.ref i2) >>= _) _ _ _
  refine wpAny_bind (wpAny_nextOf_ascii_item (((h2.extBut s1.extBut D.i2z).extBut s2.extBut D.i12.symm).extBut s3.extBut D.TOi2.symm) hy fun g4 p2 s4 => wpAny_pure ?_)
  have o4 : IsPair g4 TO x b := s4.extBut _ _ D.TOi2 o3
  refine wpAny_bind (wpAny_seqItems o4 rfl (wpAny_bind (wpAny_updateSeq_pair o4 fun g5 o5 s5 => ?_))); replace o5 : IsPair g5 TO x (.str ⟨#[c]⟩ s.toks) := o5
  refine wpAny_bind (wpAny_letGo (wpAny_pure (wpAny_pure (wpAny_bind (wpAny_seqItems o5 rfl (wpAny_bind (wpAny_newTuple ?_)))))))
  have e5 : g5.objs.size = s.heap.objs.size := by rw [s5.1, s4.1, s3.1, s2.1, s1.1]
  have z5 : IsZip g5 z TI TO .ellipsis := s5.extBut _ _ D.TOz.symm (s4.extBut _ _ D.i2z.symm (s3.extBut _ _ D.TOz.symm (s2.extBut _ _ D.i1z.symm z1)))
  have k5 : ∀ j o, j ≠ z → j ≠ TO → j ≠ i1 → j ≠ i2 → s.heap.get? j = some o → g5.get? j = some o := fun j o c1 c2 c3 c4 e => s5.extBut _ _ c2 (s4.extBut _ _ c4 (s3.extBut _ _ c2 (s2.extBut _ _ c3 (s1.extBut _ _ c1 e))))
  have q1 : g5.IsListIter i1 l (k + 1) := ((p1.extBut s3.extBut D.TOi1.symm).extBut s4.extBut D.i12).extBut s5.extBut D.TOi1.symm
  have q2 : g5.IsStrIter i2 Asc y t (k + 1) := p2.extBut s5.extBut D.TOi2.symm
  have lz : z < g5.objs.size := Heap.lt_size z5
  show wpAny _ _ (Builtin.SmallTypes.ownedTupleHandOut (.ref z) (.ref g5.objs.size) >>= _) _ _ _; refine wpAny_bind ?_; unfold Builtin.SmallTypes.ownedTupleHandOut
  have z6 : IsZip (g5.push { cls := .type "tuple", data := .seq #[x, .str ⟨#[c]⟩ s.toks] }) z TI TO .ellipsis := Heap.get?_push_of_some _ z5
  refine wpAny_bind (wpAny_setField_rec z6 (by simp) fun g7 z7 s7 => ?_); replace z7 : IsZip g7 z TI TO (rawInt g5.objs.size) := z7
  refine wpAny_setField_rec z7 (by simp) fun g8 z8 s8 => ?_; replace z8 : IsZip g8 z TI TO (rawInt g5.objs.size) := z8
  have up : ∀ j o, j ≠ z → g5.get? j = some o → g8.get? j = some o := fun j o c1 e => s8.extBut _ _ c1 (s7.extBut _ _ c1 (Heap.get?_push_of_some _ e))
  have t8 : IsPair g8 g5.objs.size x (.str ⟨#[c]⟩ s.toks) := s8.extBut _ _ (Nat.ne_of_gt lz) (s7.extBut _ _ (Nat.ne_of_gt lz) (Heap.get?_push_size _ rfl))
  have e8 : g8.objs.size = g5.objs.size + 1 := by rw [s8.1, s7.1, Heap.size_push]
  rw [e5] at z8 t8 e8; refine wpAny_pure ⟨_, rfl, ?_⟩; show Q (.ref g5.objs.size) _; rw [e5]
  exact hQ g8 z8 (up _ _ D.TOz o5) (q1.at fun o e => up _ o D.i1z e) (siAt q2 fun o e => up _ o D.i2z e) t8 e8 fun j o c1 c2 c3 c4 e => up j o c1 (k5 j o c1 c2 c3 c4 e)
theorem itemH {Q : Value → Shared → Prop} (D : ZipApart z TI TO i1 i2 l l) (hz : IsZipHeld s.heap z TI TO T f) (hT : s.heap.get? T = some oT) (hTI : IsPair s.heap TI (.ref i1) (.ref i2)) (h1 : s.heap.IsListIter i1 l k) (h2 : s.heap.IsStrIter i2 Asc y t k) (hl : s.heap.IsList l xs) (hx : xs[k]? = some x) (hy : y.cps[k]? = some c)
    (hQ : ∀ h', IsZipHeld h' z TI TO T true → h'.IsListIter i1 l (k + 1) → h'.IsStrIter i2 Asc y t (k + 1) → IsPair h' s.heap.objs.size x (.str ⟨#[c]⟩ s.toks) → h'.objs.size = s.heap.objs.size + 1 →
      (∀ j o, j ≠ z → j ≠ i1 → j ≠ i2 → s.heap.get? j = some o → h'.get? j = some o) → Q (.ref s.heap.objs.size) { s with heap := h', toks := s.toks + 1 }) :
    wpAny (model prog w) A (Builtin.«zip.__next__» ⟨[.ref z], []⟩) (fun fin s' => ∃ v, fin = .done (.ret v) ∧ Q v s') E s := by
  show wpAny _ _ (field (.ref z) 2 >>= _) _ _ _; refine wpAny_bind (wpAny_field hz rfl (x := .bool false) rfl ?_)
  show wpAny _ _ (field (.ref z) 3 >>= _) _ _ _; refine wpAny_bind (wpAny_field hz rfl (x := .ref TI) rfl (wpAny_bind (wpAny_seqItems hTI rfl ?_)))
  show wpAny _ _ (Builtin.SmallTypes.ownedTupleIsFree (.ref z) >>= _) _ _ _; refine wpAny_bind (wpAny_tupleHeld_zip hz hT fun g1 z1 s1 => ?_)
  simp only [Bool.false_eq_true, if_false]; refine wpAny_bind ?_; rw [← Array.forIn_toList]; simp only [List.forIn_cons, List.forIn_nil]
  refine wpAny_bind (wpAny_bind (wpAny_holding ?_)); show wpAny _ _ (Builtin.SmallTypes.nextOf (.ref i1) >>= _) _ _ _
  refine wpAny_bind (wpAny_nextOf_list_item (s := { s with heap := g1 }) (h1.extBut s1.extBut D.i1z) (hl.extBut s1.extBut D.l1z) hx fun g2 p1 s2 => wpAny_pure (wpAny_pure (wpAny_bind (wpAny_bind (wpAny_holding ?_)))))
  show wpAny _ _ (Builtin.SmallTypes.nextOf (.ref i2) >>= _) _ _ _; refine wpAny_bind (wpAny_nextOf_ascii_item (s := { s with heap := g2 }) ((h2.extBut s1.extBut D.i2z).extBut s2.extBut D.i12.symm) hy fun g3 p2 s3 => wpAny_pure (wpAny_pure (wpAny_pure ?_)))
  show wpAny _ _ (newTuple [x, .str ⟨#[c]⟩ s.toks] >>= _) _ _ _; refine wpAny_bind (wpAny_newTuple ?_)
  have e3 : g3.objs.size = s.heap.objs.size := by rw [s3.1, s2.1, s1.1]
  have z3 : IsZipHeld g3 z TI TO T true := s3.extBut _ _ D.i2z.symm (s2.extBut _ _ D.i1z.symm z1)
  have k3 : ∀ j o, j ≠ z → j ≠ i1 → j ≠ i2 → s.heap.get? j = some o → g3.get? j = some o := fun j o c1 c2 c3 e => s3.extBut _ _ c3 (s2.extBut _ _ c2 (s1.extBut _ _ c1 e))
  have q1 : g3.IsListIter i1 l (k + 1) := p1.extBut s3.extBut D.i12
  refine wpAny_pure ⟨_, rfl, ?_⟩; show Q (.ref g3.objs.size) _
  have pp : IsPair (g3.push { cls := .type "tuple", data := .seq #[x, .str ⟨#[c]⟩ s.toks] }) g3.objs.size x (.str ⟨#[c]⟩ s.toks) := Heap.get?_push_size _ rfl
  have e4 : (g3.push { cls := .type "tuple", data := .seq #[x, .str ⟨#[c]⟩ s.toks] }).objs.size = g3.objs.size + 1 := Heap.size_push ..
  rw [e3] at pp e4 ⊢
  exact hQ _ (Heap.get?_push_of_some _ z3) (q1.at fun o e => Heap.get?_push_of_some _ e) (siAt p2 fun o e => Heap.get?_push_of_some _ e) pp e4 fun j o c1 c2 c3 e => Heap.get?_push_of_some _ (k3 j o c1 c2 c3 e)
end
end PySem.ZS

namespace PySem.ZS
open PySem PySem.W
section
variable {prog : Program} {w : World} {A : Around} {E : Value → Shared → Prop} {s : Shared} {z TI TO T i1 i2 l : Addr} {k : Nat} {xs : Array Value} {x a b : Value} {y : Str} {t : Tok} {c : Nat} {f : Bool} {oT : Obj}
theorem endF {Q : Fin → Shared → Prop} (hh : A.handled = none) (D : ZipApart z TI TO i1 i2 l l) (hz : IsZip s.heap z TI TO .none) (hTI : IsPair s.heap TI (.ref i1) (.ref i2)) (h1 : s.heap.IsListIter i1 l k) (hl : s.heap.IsList l xs) (hx : xs[k]? = none)
    (hE : ∀ h' e, (∀ j o, j ≠ z → j ≠ TO → j ≠ i1 → j ≠ i2 → s.heap.get? j = some o → h'.get? j = some o) → (∃ o, h'.get? e = some o ∧ o.cls = .type "StopIteration") → E (.ref e) { s with heap := h' }) :
    wpAny (model prog w) A (Builtin.«zip.__next__» ⟨[.ref z], []⟩) Q E s := by
  show wpAny _ _ (field (.ref z) 2 >>= _) _ _ _; refine wpAny_bind (wpAny_field hz rfl (x := .bool false) rfl ?_)
  show wpAny _ _ (field (.ref z) 3 >>= _) _ _ _; refine wpAny_bind (wpAny_field hz rfl (x := .ref TI) rfl (wpAny_bind (wpAny_seqItems hTI rfl ?_)))
  show wpAny _ _ (Builtin.SmallTypes.ownedTupleIsFree (.ref z) >>= _) _ _ _; refine wpAny_bind ?_; unfold Builtin.SmallTypes.ownedTupleIsFree
  refine wpAny_bind (wpAny_field hz rfl (x := .none) rfl (wpAny_pure ?_)); simp only [if_true]
  refine wpAny_bind (wpAny_rule (wpAny_bind (wpAny_field hz rfl (x := .ref TO) rfl (wpAny_bind (wpAny_setField_rec hz (by simp) fun g1 z1 s1 => ?_)))))
  replace z1 : IsZip g1 z TI TO .ellipsis := z1
  refine wpAny_bind ?_; simp only [List.zipIdx_cons, List.zipIdx_nil, List.forIn_cons, List.forIn_nil]
  refine wpAny_bind (wpAny_bind (wpAny_onRaise ?_)); show wpAny _ _ (Builtin.SmallTypes.nextOf (.ref i1) >>= _) _ _ _
  refine wpAny_bind (wpAny_nextOf_list_end hh (h1.extBut s1.extBut D.i1z) (hl.extBut s1.extBut D.l1z) hx fun g2 e s2 ⟨oe, he, hc⟩ => ?_)
  have z2 : IsZip g2 z TI TO .ellipsis := s2 _ _ D.i1z.symm z1
  have ez : e ≠ z := fun q => by subst q; rw [z2] at he; cases he; simp at hc
  exact wpAny_setField_rec z2 (by simp) fun g3 _ s3 => hE g3 e (fun j o c1 _ c3 _ q => s3.extBut _ _ c1 (s2 _ _ c3 (s1.extBut _ _ c1 q))) ⟨oe, s3.extBut _ _ ez he, hc⟩
theorem endH {Q : Fin → Shared → Prop} (hh : A.handled = none) (D : ZipApart z TI TO i1 i2 l l) (hz : IsZipHeld s.heap z TI TO T f) (hT : s.heap.get? T = some oT) (hTI : IsPair s.heap TI (.ref i1) (.ref i2)) (h1 : s.heap.IsListIter i1 l k) (hl : s.heap.IsList l xs) (hx : xs[k]? = none)
    (hE : ∀ h' e, (∀ j o, j ≠ z → j ≠ i1 → j ≠ i2 → s.heap.get? j = some o → h'.get? j = some o) → (∃ o, h'.get? e = some o ∧ o.cls = .type "StopIteration") → E (.ref e) { s with heap := h' }) :
    wpAny (model prog w) A (Builtin.«zip.__next__» ⟨[.ref z], []⟩) Q E s := by
  show wpAny _ _ (field (.ref z) 2 >>= _) _ _ _; refine wpAny_bind (wpAny_field hz rfl (x := .bool false) rfl ?_)
  show wpAny _ _ (field (.ref z) 3 >>= _) _ _ _; refine wpAny_bind (wpAny_field hz rfl (x := .ref TI) rfl (wpAny_bind (wpAny_seqItems hTI rfl ?_)))
  show wpAny _ _ (Builtin.SmallTypes.ownedTupleIsFree (.ref z) >>= _) _ _ _; refine wpAny_bind (wpAny_tupleHeld_zip hz hT fun g1 z1 s1 => ?_)
  simp only [Bool.false_eq_true, if_false]; refine wpAny_bind ?_; rw [← Array.forIn_toList]; simp only [List.forIn_cons, List.forIn_nil]
  refine wpAny_bind (wpAny_bind (wpAny_holding ?_)); show wpAny _ _ (Builtin.SmallTypes.nextOf (.ref i1) >>= _) _ _ _
  refine wpAny_bind (wpAny_nextOf_list_end (s := { s with heap := g1 }) hh (h1.extBut s1.extBut D.i1z) (hl.extBut s1.extBut D.l1z) hx fun g2 e s2 he => ?_)
  exact hE g2 e (fun j o c1 c2 _ q => s2 _ _ c2 (s1.extBut _ _ c1 q)) he
theorem nextF {Q : Option Value → Shared → Prop} (D : ZipApart z TI TO i1 i2 l l) (hz : IsZip s.heap z TI TO .none) (hTI : IsPair s.heap TI (.ref i1) (.ref i2)) (hTO : IsPair s.heap TO a b) (h1 : s.heap.IsListIter i1 l k) (h2 : s.heap.IsStrIter i2 Asc y t k) (hl : s.heap.IsList l xs) (hx : xs[k]? = some x) (hy : y.cps[k]? = some c)
    (hQ : ∀ h', IsZip h' z TI TO (rawInt s.heap.objs.size) → IsPair h' TO x (.str ⟨#[c]⟩ s.toks) → h'.IsListIter i1 l (k + 1) → h'.IsStrIter i2 Asc y t (k + 1) → IsPair h' s.heap.objs.size x (.str ⟨#[c]⟩ s.toks) → h'.objs.size = s.heap.objs.size + 1 →
      (∀ j o, j ≠ z → j ≠ TO → j ≠ i1 → j ≠ i2 → s.heap.get? j = some o → h'.get? j = some o) → Q (some (.ref s.heap.objs.size)) { s with heap := h', toks := s.toks + 1 }) : wpAny (model prog w) A (pyNext (.ref z)) Q E s := by
  have ty : s.TypeIs (.ref z) "zip" := ⟨_, hz, rfl⟩
  unfold pyNext; exact wpAny_bind (wpAny_attempt (wpAny_callSpecial?_slot (name := Str.ofString "__next__") ty F.slot_zip_next (wpAny_call_entry F.slot_zip_next ty F.entry_zip_next (itemF D hz hTI hTO h1 h2 hl hx hy fun h' a1 a2 a3 a4 a5 a6 a7 => wpAny_pure (hQ h' a1 a2 a3 a4 a5 a6 a7)) (F.args_zip_next_1 _))))
theorem nextH {Q : Option Value → Shared → Prop} (D : ZipApart z TI TO i1 i2 l l) (hz : IsZipHeld s.heap z TI TO T f) (hT : s.heap.get? T = some oT) (hTI : IsPair s.heap TI (.ref i1) (.ref i2)) (h1 : s.heap.IsListIter i1 l k) (h2 : s.heap.IsStrIter i2 Asc y t k) (hl : s.heap.IsList l xs) (hx : xs[k]? = some x) (hy : y.cps[k]? = some c)
    (hQ : ∀ h', IsZipHeld h' z TI TO T true → h'.IsListIter i1 l (k + 1) → h'.IsStrIter i2 Asc y t (k + 1) → IsPair h' s.heap.objs.size x (.str ⟨#[c]⟩ s.toks) → h'.objs.size = s.heap.objs.size + 1 →
      (∀ j o, j ≠ z → j ≠ i1 → j ≠ i2 → s.heap.get? j = some o → h'.get? j = some o) → Q (some (.ref s.heap.objs.size)) { s with heap := h', toks := s.toks + 1 }) : wpAny (model prog w) A (pyNext (.ref z)) Q E s := by
  have ty : s.TypeIs (.ref z) "zip" := ⟨_, hz, rfl⟩
  unfold pyNext; exact wpAny_bind (wpAny_attempt (wpAny_callSpecial?_slot (name := Str.ofString "__next__") ty F.slot_zip_next (wpAny_call_entry F.slot_zip_next ty F.entry_zip_next (itemH D hz hT hTI h1 h2 hl hx hy fun h' a1 a3 a4 a5 a6 a7 => wpAny_pure (hQ h' a1 a3 a4 a5 a6 a7)) (F.args_zip_next_1 _))))
theorem stopF {Q : Option Value → Shared → Prop} (hh : A.handled = none) (D : ZipApart z TI TO i1 i2 l l) (hz : IsZip s.heap z TI TO .none) (hTI : IsPair s.heap TI (.ref i1) (.ref i2)) (h1 : s.heap.IsListIter i1 l k) (hl : s.heap.IsList l xs) (hx : xs[k]? = none)
    (hQ : ∀ h', (∀ j o, j ≠ z → j ≠ TO → j ≠ i1 → j ≠ i2 → s.heap.get? j = some o → h'.get? j = some o) → Q none { s with heap := h' }) : wpAny (model prog w) A (pyNext (.ref z)) Q E s := by
  have ty : s.TypeIs (.ref z) "zip" := ⟨_, hz, rfl⟩
  unfold pyNext; refine wpAny_bind (wpAny_attempt (wpAny_callSpecial?_slot (name := Str.ofString "__next__") ty F.slot_zip_next (wpAny_call_entry F.slot_zip_next ty F.entry_zip_next (endF hh D hz hTI h1 hl hx fun h' e hk he => ?_) (F.args_zip_next_1 _))))
  obtain ⟨o, ho, hc⟩ := he; exact wpAny_bind (wpAny_isInstance (T := "StopIteration") (b := true) ⟨o, ho, hc⟩ isSubtype_stop (wpAny_pure (hQ _ hk)))
theorem stopH {Q : Option Value → Shared → Prop} (hh : A.handled = none) (D : ZipApart z TI TO i1 i2 l l) (hz : IsZipHeld s.heap z TI TO T f) (hT : s.heap.get? T = some oT) (hTI : IsPair s.heap TI (.ref i1) (.ref i2)) (h1 : s.heap.IsListIter i1 l k) (hl : s.heap.IsList l xs) (hx : xs[k]? = none)
    (hQ : ∀ h', (∀ j o, j ≠ z → j ≠ i1 → j ≠ i2 → s.heap.get? j = some o → h'.get? j = some o) → Q none { s with heap := h' }) : wpAny (model prog w) A (pyNext (.ref z)) Q E s := by
  have ty : s.TypeIs (.ref z) "zip" := ⟨_, hz, rfl⟩
  unfold pyNext; refine wpAny_bind (wpAny_attempt (wpAny_callSpecial?_slot (name := Str.ofString "__next__") ty F.slot_zip_next (wpAny_call_entry F.slot_zip_next ty F.entry_zip_next (endH hh D hz hT hTI h1 hl hx fun h' e hk he => ?_) (F.args_zip_next_1 _))))
  obtain ⟨o, ho, hc⟩ := he; exact wpAny_bind (wpAny_isInstance (T := "StopIteration") (b := true) ⟨o, ho, hc⟩ isSubtype_stop (wpAny_pure (hQ _ hk)))
end
section
variable {prog : Program} {w : World}
/-- zip(list, text) as what a dict is made of -/
theorem arg (z TI TO i1 i2 l : Addr) (D : ZipApart z TI TO i1 i2 l l) (xs : Array Value) (y : Str) (t : Tok) (hn : xs.size ≤ y.cps.size) :
    PairArg prog w "zip" z [z, TI, TO, i1, i2, l] [z, TO, i1, i2] xs.size (fun i k v => xs[i]? = some k ∧ ∃ c u, y.cps[i]? = some c ∧ v = .str ⟨#[c]⟩ u)
      (fun h => IsZip h z TI TO .none ∧ IsPair h TI (.ref i1) (.ref i2) ∧ (∃ a b, IsPair h TO a b) ∧ h.IsListIter i1 l 0 ∧ h.IsStrIter i2 Asc y t 0 ∧ h.IsList l xs) where
  type := fun s ok => ⟨_, ok.1, rfl⟩
  notDict := by decide
  keep := fun h h' ⟨a1, a2, ⟨a, b, a3⟩, a4, a5, a6⟩ hk => ⟨hk _ _ a1, hk _ _ a2, ⟨a, b, hk _ _ a3⟩, a4.at fun o e => hk _ o e, siAt a5 fun o e => hk _ o e, a6.at fun o e => hk _ o e⟩
  there := fun h ⟨a1, a2, ⟨a, c, a3⟩, ⟨o1, a4, _⟩, ⟨o2, a5, _⟩, ⟨o3, a6, _⟩⟩ b hb => by
    simp only [List.mem_cons, List.not_mem_nil, or_false] at hb
    rcases hb with rfl | rfl | rfl | rfl | rfl | rfl; all_goals first | exact ⟨_, a1⟩ | exact ⟨_, a2⟩ | exact ⟨_, a3⟩ | exact ⟨_, a4⟩ | exact ⟨_, a5⟩ | exact ⟨_, a6⟩
  sub := fun b hb => by simp at hb ⊢; rcases hb with rfl | rfl | rfl | rfl <;> simp
  noKeys := fun A s Q E hA ok h => getAttrOr_miss_zip ok.1 rfl rfl rfl zip_no_keys (by decide +kernel) hA h
  iter := fun A s d Q E hA ⟨hz, hTI, ⟨a, b, hTO⟩, h1, h2, hl⟩ hd hdf h => by
    simp only [List.mem_cons, List.not_mem_nil, or_false, not_or] at hdf
    obtain ⟨dz, dTI, dTO, di1, di2, dl⟩ := hdf
    refine wpAny_pyIter_zip hz (h z [z, TO, i1, i2] (fun i h => IsPair h TI (.ref i1) (.ref i2) ∧ h.IsListIter i1 l i ∧ h.IsStrIter i2 Asc y t i ∧ h.IsList l xs ∧
      ((IsZip h z TI TO .none ∧ ∃ a b, IsPair h TO a b) ∨ ∃ T f oT, IsZipHeld h z TI TO T f ∧ h.get? T = some oT ∧ T ≠ z ∧ T ≠ i1 ∧ T ≠ i2 ∧ T ≠ d)) s.heap s.toks ?_ ⟨hTI, h1, h2, hl, .inl ⟨hz, a, b, hTO⟩⟩ (fun _ _ e => e) fun b hb => .inl hb)
    exact {
      off := fun hm => by
        simp only [List.mem_cons, List.not_mem_nil, or_false] at hm
        rcases hm with e | e | e | e <;> first | exact dz e | exact dTO e | exact di1 e | exact di2 e
      frame := fun i g1 g2 ⟨a1, a2, a3, a4, a5⟩ hk => by
        refine ⟨hk _ _ (Ne.symm dTI) a1, a2.at fun o e => hk _ o (Ne.symm di1) e, siAt a3 fun o e => hk _ o (Ne.symm di2) e, a4.at fun o e => hk _ o (Ne.symm dl) e, ?_⟩
        rcases a5 with ⟨a5, a, b, a6⟩ | ⟨T, f, oT, a5, hT, r1, r2, r3, r4⟩
        · exact .inl ⟨hk _ _ (Ne.symm dz) a5, a, b, hk _ _ (Ne.symm dTO) a6⟩
        · exact .inr ⟨T, f, oT, hk _ _ (Ne.symm dz) a5, hk _ _ r4 hT, r1, r2, r3, r4⟩
      item := fun i s₁ Q₁ E₁ hi ⟨a1, a2, a3, a4, a5⟩ hds hQ => by
        have ex := Array.getElem?_eq_getElem hi
        have ey := Array.getElem?_eq_getElem (Nat.lt_of_lt_of_le hi hn)
        have lt : ∀ {c o}, s₁.heap.get? c = some o → s₁.heap.objs.size ≠ c := fun e => Nat.ne_of_gt (Heap.lt_size e)
        have n1 : s₁.heap.objs.size ≠ i1 := let ⟨_, e, _⟩ := a2; lt e
        have n2 : s₁.heap.objs.size ≠ i2 := let ⟨_, e, _⟩ := a3; lt e
        rcases a5 with ⟨a5, a, b, a6⟩ | ⟨T, f, oT, a5, hT, r1, r2, r3, r4⟩
        · refine nextF D a5 a1 a6 a2 a3 a4 ex ey fun h' c1 c2 c3 c4 c5 c6 hk => ?_
          exact hQ s₁.heap.objs.size _ _ h' _ ⟨ex, _, _, ey, rfl⟩ (.inl ⟨_, c5, rfl, _, rfl⟩)
            ⟨hk _ _ D.TIz D.TITO D.TIi1 D.TIi2 a1, c3, c4, a4.at fun o e => hk _ o D.l1z D.l1TO D.l1i1 D.l1i2 e, .inr ⟨s₁.heap.objs.size, false, _, c1, c5, lt a5, n1, n2, Nat.ne_of_gt hds⟩⟩
            fun c o hc e => hk c o (fun x => hc (by simp [x])) (fun x => hc (by simp [x])) (fun x => hc (by simp [x])) (fun x => hc (by simp [x])) e
        · refine nextH D a5 hT a1 a2 a3 a4 ex ey fun h' c1 c3 c4 c5 c6 hk => ?_
          exact hQ s₁.heap.objs.size _ _ h' _ ⟨ex, _, _, ey, rfl⟩ (.inl ⟨_, c5, rfl, _, rfl⟩)
            ⟨hk _ _ D.TIz D.TIi1 D.TIi2 a1, c3, c4, a4.at fun o e => hk _ o D.l1z D.l1i1 D.l1i2 e, .inr ⟨T, true, oT, c1, hk _ _ r1 r2 r3 hT, r1, r2, r3, r4⟩⟩
            fun c o hc e => hk c o (fun x => hc (by simp [x])) (fun x => hc (by simp [x])) (fun x => hc (by simp [x])) e
      done := fun s₁ Q₁ E₁ ⟨a1, a2, a3, a4, a5⟩ hQ => by
        have hx : xs[xs.size]? = none := Array.getElem?_eq_none (Nat.le_refl _)
        rcases a5 with ⟨a5, a, b, a6⟩ | ⟨T, f, oT, a5, hT, r1, r2, r3, r4⟩
        · exact stopF hA D a5 a1 a2 a4 hx fun h' hk => hQ h' s₁.toks fun c o hc e => hk c o (fun x => hc (by simp [x])) (fun x => hc (by simp [x])) (fun x => hc (by simp [x])) (fun x => hc (by simp [x])) e
        · exact stopH hA D a5 hT a1 a2 a4 hx fun h' hk => hQ h' s₁.toks fun c o hc e => hk c o (fun x => hc (by simp [x])) (fun x => hc (by simp [x])) (fun x => hc (by simp [x])) e }
end
end PySem.ZS

namespace L2
open PySem PySem.Spec PyProof.Rows
section
variable {prog : Program} {w : World} {A : Around} {E : Value → Shared → Prop} {s : Shared}
theorem mergeK_step {kvs : List (Key × V)} {i : Nat} {k : Key} {y : V} (h : kvs[i]? = some (k, y)) : mergeK [] (kvs.take (i + 1)) = mergeK (mergeK [] (kvs.take i)) [(k, y)] := by
  unfold mergeK
  rw [List.take_add_one, h, List.foldl_append]; rfl
theorem call_dictZ {T : String} {a : Addr} {fp wr : List Addr} {n : Nat} {Rel : Nat → Value → Value → Prop} {OK : Heap → Prop} {kvs : List (Key × V)} {Q : Value → Shared → Prop} (P : PairArg prog w T a fp wr n Rel OK) (hh : A.handled = none) (ok : OK s.heap) (hl : kvs.length = n)
    (hc : ∀ i key v, Rel i key v → ∃ k y, kvs[i]? = some (k, y) ∧ (mixKind prog w).is k key = true ∧ RelV y v) (hsz : n ≤ sizeLine)
    (h : ∀ h' tk vs, KV (mergeK [] kvs) vs → h'.DictOf (mixKind prog w) s.heap.objs.size vs → (∀ b o, b ∉ wr → s.heap.get? b = some o → h'.get? b = some o) → Q (.ref s.heap.objs.size) { s with heap := h', toks := tk }) :
    wpAny (model prog w) A (call (.type "dict") [.ref a]) Q E s := by
  refine call_dict_arg P ok fun s₁ hs₁ hdf ok₁ => ?_
  subst hs₁
  refine updateFrom_arg (A := A.in1) (Tab := fun i h => ∃ vs, KV (mergeK [] (kvs.take i)) vs ∧ h.DictOf (mixKind prog w) s.heap.objs.size vs) P .none hh ok₁ hdf ⟨[], .nil, Heap.DictOf.new s.heap⟩ (fun _ _ ⟨_, _, tb⟩ => tb.lt_size) (fun i h h' wr' hd _ ⟨vs, r, tb⟩ hk => ⟨vs, r, tb.at' fun o e => hk _ o hd e⟩) ?_ ?_
  · intro i key v s' Q E' hi hrel tb0 _ hQ
    obtain ⟨vs, r, tb⟩ := tb0
    obtain ⟨k, y, hk, his, ry⟩ := hc i key v hrel
    have len : vs.length ≤ i := by
      rw [← r.length]
      refine Nat.le_trans (length_mergeK (kvs.take i) []) ?_
      rw [List.length_nil, List.length_take]; omega
    refine wpAny_dictSet_pairs (hsz := by omega) his tb fun h' hm' hs => ?_
    refine hQ h' _ ⟨_, ?_, hm'⟩ hs
    rw [mergeK_step hk]
    exact KV.merge (more := [(k, y)]) (rs := [(k, v)]) (.cons ⟨rfl, ry⟩ .nil) r
  · rintro h' tk ⟨vs, r, tb⟩ hk
    rw [List.take_of_length_le (Nat.le_of_eq hl)] at r
    exact ⟨rfl, h h' tk vs r tb fun b o hw e => hk b o (Nat.ne_of_lt (Heap.lt_size e)) hw (Heap.get?_push_of_some _ e)⟩
end
end L2

namespace L2
open PySem PySem.Spec PyProof.Rows
def zipKV (ks : List Str) (y : Str) : List (Key × V) := (ks.zip y.cps.toList).map fun p => (Sum.inr p.1, V.str ⟨#[p.2]⟩)
def tDictZip (K : PySem.W.Frag) (ta tb : TE) : TE := fun σ H Q => ta σ H fun x H1 => tb σ H1 fun u H2 => ∃ (l : Addr) (ks : List Str) (y : Str), x = .ref l ∧ u = .str y ∧ SqL K H2 l (ks.map V.str) ∧ ks.length = y.cps.size ∧ y.cps.all (· < 128) = true ∧ ∀ p, H2 p = none → Q (.ref p) (upd H2 p (.dK (mergeK [] (zipKV ks y))))
section
variable {X : Cx} {pins : List (Addr × Obj)} {σ : St}
/-- what stands behind zip(list, text) -/
def Zipped (X : Cx) (pins : List (Addr × Obj)) (σ : St) (l : Addr) (its : List Value) (y : Str) (H2 : Hp) (v : Value) (s1 : Shared) : Prop :=
  ∃ (s2 : Shared) (h1 : Heap) (t : Tok), v = .ref (s2.heap.objs.size + 4) ∧ s1 = { s2 with heap := h1 } ∧ Inv X pins σ H2 s2 ∧ l < s2.heap.objs.size ∧ IsZip h1 (s2.heap.objs.size + 4) (s2.heap.objs.size + 2) (s2.heap.objs.size + 3) .none ∧ IsPair h1 (s2.heap.objs.size + 2) (.ref s2.heap.objs.size) (.ref (s2.heap.objs.size + 1)) ∧ IsPair h1 (s2.heap.objs.size + 3) .none .none ∧
    h1.IsListIter s2.heap.objs.size l 0 ∧ h1.IsStrIter (s2.heap.objs.size + 1) ZS.Asc y t 0 ∧ h1.IsList l its.toArray ∧ h1.objs.size = s2.heap.objs.size + 5 ∧ (∀ c o, s2.heap.get? c = some o → h1.get? c = some o)
theorem zip_keys {ks : List Str} {its : List Value} {y : Str} (r : Vals (ks.map V.str) its) {P : Program} {w : World} {i : Nat} {key v : Value} (h : its.toArray[i]? = some key ∧ ∃ c u, y.cps[i]? = some c ∧ v = Value.str ⟨#[c]⟩ u) :
    ∃ k z, (zipKV ks y)[i]? = some (k, z) ∧ (mixKind P w).is k key = true ∧ RelV z v := by
  obtain ⟨hk, c, u, hc, rfl⟩ := h
  rw [List.getElem?_toArray] at hk
  have hi : i < its.length := (List.getElem?_eq_some_iff.mp hk).1
  have hi2 : i < ks.length := by rw [← r.length, List.length_map] at hi; exact hi
  have e1 : (ks.map V.str)[i]? = some (V.str ks[i]) := by rw [List.getElem?_map, List.getElem?_eq_getElem hi2]; rfl
  have rk : RelV (V.str ks[i]) key := by
    obtain ⟨u', a1, a2⟩ := r.get e1
    rw [hk] at a1; cases a1; exact a2
  obtain ⟨t, rfl⟩ := rk
  refine ⟨.inr ks[i], .str ⟨#[c]⟩, ?_, ?_, ⟨u, rfl⟩⟩
  · unfold zipKV
    have e2 : y.cps.toList[i]? = some c := by rw [Array.getElem?_toList]; exact hc
    have e3 : (ks.zip y.cps.toList)[i]? = some (ks[i], c) := List.getElem?_zip_eq_some.mpr ⟨List.getElem?_eq_getElem hi2, e2⟩
    rw [List.getElem?_map, e3]; rfl
  · show Value.isStrOf ks[i] (.str ks[i] t) = true
    simp [Value.isStrOf]
theorem pe_dictZip {a b : Expr} {ta tb : TE} {p1 p2 pos1 pos2 : Pos} (hc : X.calm = true) (hgd : Gl X "dict") (hmd : X.mg "dict" = none) (hgz : Gl X "zip") (hmz : X.mg "zip" = none) (ha : PE X a ta) (hb : PE X b tb)
    (na : starEach [a, b] X.env = (false, eval a X.env) :: starEach [b] X.env := by rfl) (nb : starEach [b] X.env = (false, eval b X.env) :: starEach [] X.env := by rfl) (hp : (backTo pos2 (starEach [b] X.env)).any (·.1) = false := by rfl)
    (nz : starEach [.Call (.Name "zip" p2) [a, b] [] pos2] X.env = (false, eval (.Call (.Name "zip" p2) [a, b] [] pos2) X.env) :: starEach [] X.env := by rfl) :
    PE X (.Call (.Name "dict" p1) [.Call (.Name "zip" p2) [a, b] [] pos2] [] pos1) (tDictZip X.K ta tb) := by
  refine ⟨fun pins s σ H Q I h => ?_⟩
  have hz : wpAny (model X.prog X.w) X.A (eval (.Call (.Name "zip" p2) [a, b] [] pos2) X.env) (fun v s1 => ∃ (l : Addr) (its : List Value) (ks : List Str) (y : Str) (H2 : Hp), Zipped X pins σ l its y H2 v s1 ∧ Vals (ks.map V.str) its ∧ ks.length ≤ sizeLine ∧ ks.length = y.cps.size ∧ ∀ p, H2 p = none → Q (.ref p) (upd H2 p (.dK (mergeK [] (zipKV ks y))))) X.xe s := by
    refine Call_ (ld_blt I hgz hmz boot_zip (PyProof.Rows.callWith_type1 (args_cons (thn (ha.run pins s σ H _ I h) fun v s1 ⟨x, H1, I1, r1, q1⟩ => one_arg hb I1 q1 (fun u s2 z H2 I2 r2 q => ?_) nb) na) na hp))
    obtain ⟨l, ks, y, rfl, rfl, hq, hl, asc, q⟩ := q
    obtain rfl : v = .ref l := r1
    obtain ⟨t, rfl⟩ := r2
    obtain ⟨its, rv, pl, hsz⟩ := I2.list hq
    refine ZS.call pl.isList fun h1 a1 a2 a3 a4 a5 a6 a7 => ?_
    have e : strIterType y = ZS.Asc := by unfold strIterType; rw [if_pos asc]
    rw [e] at a5
    exact ⟨l, its, ks, y, H2, ⟨s2, h1, t, rfl, rfl, I2, pl.lt, a1, a2, a3, a4, a5, pl.isList.at fun o e => a7 _ o e, a6, a7⟩, rv, by simpa using hsz, hl, q⟩
  refine Call_ (ld_blt I hgd hmd boot_dict (PyProof.Rows.callWith_type1 (args_cons (thn hz fun x s1 ⟨l, its, ks, y, H2, ⟨s2, h1, t, ev, es, I2, ll, a1, a2, a3, a4, a5, al, a6, a7⟩, rv, hsz, hl, q⟩ => args_nil ?_) nz) nz))
  subst ev es
  have hk0 : (zipKV ks y).length = ks.length := by unfold zipKV; rw [List.length_map, List.length_zip, show y.cps.toList.length = y.cps.size by simp, hl, Nat.min_self]
  have len : its.length = ks.length := by rw [← rv.length, List.length_map]
  refine call_dictZ (kvs := zipKV ks y) (n := its.toArray.size) (ZS.arg (prog := X.prog) (w := X.w) (s2.heap.objs.size + 4) (s2.heap.objs.size + 2) (s2.heap.objs.size + 3) s2.heap.objs.size (s2.heap.objs.size + 1) l (PySem.W.ktu_apart s2.heap.objs.size l l ll ll) its.toArray y t (by simp; omega)) (I2.ok.hd hc) ⟨a1, a2, ⟨_, _, a3⟩, a4, a5, al⟩ (by rw [hk0, ← len]; simp) (fun i key v hr => zip_keys rv hr) (by simp; omega) fun h' tk vs kv hd hk => ?_
  have hbig : (h1.objs.size == sysModules) = false := beq_eq_false_iff_ne.mpr (by rw [a6]; exact Nat.ne_of_gt (Nat.lt_of_lt_of_le I2.big (Nat.le_add_right _ _)))
  have keep : ∀ b o, s2.heap.get? b = some o → h'.get? b = some o := fun b o e => hk b o (fun hm => by
    have lt := Heap.lt_size e
    simp only [List.mem_cons, List.not_mem_nil, or_false] at hm
    rcases hm with rfl | rfl | rfl | rfl
    · exact Nat.not_lt_of_le (Nat.le_add_right _ _) lt
    · exact Nat.not_lt_of_le (Nat.le_add_right _ _) lt
    · exact Nat.lt_irrefl _ lt
    · exact Nat.not_lt_of_le (Nat.le_add_right _ _) lt) (a7 b o e)
  refine ⟨.ref h1.objs.size, upd H2 h1.objs.size (.dK (mergeK [] (zipKV ks y))), I2.laid (t' := tk) keep (by rw [a6]; omega) (show ObjOk X.prog X.w _ _ _ (.dK (mergeK [] (zipKV ks y))) from ⟨?_, hbig, vs, kv, hd⟩), rfl, q _ (I2.hok.fresh (by rw [a6]; omega))⟩
  refine Nat.le_trans (length_mergeK _ []) ?_
  rw [List.length_nil, Nat.zero_add, hk0]; exact hsz
end
end L2

namespace VL
open PySem L2
variable [EC]
def dzipL : List (List Nat) → List Nat → List (D × D) → List (D × D)
  | k :: ks, c :: cs, acc => dzipL ks cs (storeD acc (.str k) (.str [c]))
  | _, _, acc => acc
def dzipD (a b : D) : Option (List (D × D)) := match a, b with
  | .lst l, .str y => match strsD l with
    | some ks => if ks.length = y.length ∧ y.all (fun c => decide (c < 128)) = true then some (dzipL ks y []) else none
    | none => none
  | _, _ => none
theorem repK_zip {G : Hp} : ∀ (ks : List (List Nat)) (cs : List Nat) {acc : List (D × D)} {kvs : List (Key × V)}, RepK G acc kvs → RepK G (dzipL ks cs acc) (mergeK kvs (((ks.map mkS).zip cs).map fun p => (Sum.inr p.1, V.str ⟨#[p.2]⟩)))
  | [], cs, acc, kvs, h => by cases cs <;> exact h
  | k :: ks, [], acc, kvs, h => h
  | k :: ks, c :: cs, acc, kvs, h => by
    have h1 : RepK G (storeD acc (.str k) (.str [c])) (putK kvs (.inr (mkS k)) (.str ⟨#[c]⟩)) := repK_store (kk := .inr (mkS k)) (d := .str k) (c := .str [c]) (by simp [kD, mkS]) rfl h
    exact repK_zip ks cs h1
section
variable {R : Type} {F : Fc} {tmp : Tmp} {s : State} {m : Res R} {K : Rs R} {N : Rn R} {Rt : Rr R} {ta tb : TE} {Kf : PySem.W.Frag}
theorem rd_dzip (h : RD F tmp s ta m (fun tm1 s1 m1 => ∀ x, RD F ((x, tm1) :: tmp) s1 tb m1 (fun tm2 s2 m2 => ∃ a b k, valS s2 tm1 = some a ∧ valS s2 tm2 = some b ∧ m2 = ob (dzipD a b) k ∧ ∀ c, K (.own (.dc false c)) s2 (k c)))) : RD F tmp s (tDictZip Kf ta tb) m K := fun σ H Q hh nf eo q =>
  h σ H _ hh nf eo fun tm1 s1 x H1 h2 h1 => h2 x σ H1 _ h1 nf eo fun tm2 s2 u H2 ⟨a, b, k, ea, eb, em, hk⟩ h3 => by
    obtain ⟨c, ec, em'⟩ := ob_cases (by rw [← em]; exact nf)
    obtain ⟨G, ω, h3⟩ := h3
    have ra := h3.repC h3.tm.2.1 ea
    have rb := h3.repC h3.tm.1 eb
    cases a <;> try (cases ec; done)
    cases b <;> try (cases ec; done)
    rename_i l y
    simp only [dzipD] at ec
    cases es : strsD l with
    | none => rw [es] at ec; cases ec
    | some ks =>
      rw [es] at ec
      dsimp only at ec
      split at ec
      · cases ec
        rename_i hy
        obtain ⟨p, vs, e1, rd, z, r⟩ := ra
        have ev := strs_ok es r
        subst ev
        refine ⟨p, ks.map mkS, mkS y, e1, rb, .inl rd, ?_, ?_, fun p2 np => ?_⟩
        · rw [List.length_map, hy.1]; simp [mkS]
        · rw [← Array.all_toList, mkS_cps]; exact hy.2
        · refine q (.own (.dc false (dzipL ks y []))) s2 _ _ (by rw [em, em']; exact hk _) ⟨G, _, h3.pop.pop.newO np ⟨p2, _, rfl, by simp, upd_same, ?_⟩⟩
          have := repK_zip (G := G) ks y (acc := []) (kvs := []) rfl
          unfold zipKV
          rw [mkS_cps]; exact this
      · cases ec
end
end VL

namespace VL
open PySem L2
variable [EC]
section
variable {R : Type} {F : Fc} {tmp : Tmp} {s : State} {m : Res R} {K : Rs R} {N : Rn R} {Rt : Rr R} {ta tb te to ti : TE} {Kf : PySem.W.Frag}
/-! a deck: [pools, number]; one of its pools by a name of its own -/
end
end VL

namespace VL
open PySem L2
variable [EC]
/-! text times number -/
/-! insert -/
section
variable {R : Type} {F : Fc} {tmp : Tmp} {s : State} {m : Res R} {K : Rs R} {N : Rn R} {Rt : Rr R} {ta tb te to ti : TE} {Kf : PySem.W.Frag}
/-! targets of a list -/
end
end VL

set_option maxHeartbeats 2000000
namespace VL
open PySem PySem.Spec PyProof.Rows L2
/-! a caught exception, kept by a name -/
section
variable {X : Cx} {pins : List (Addr × Obj)} {σ : L2.St} {H : Hp} {s : Shared}
end
section
variable {X : Cx} {x n y : Str} {c : Value} {i j : Nat} {body : List Stmt} {np np2 yp apos pos pos' : Pos} {tb : WX → TS}
end
end VL

set_option maxHeartbeats 1000000
namespace VL
open PySem L2
variable [EC]
section
variable {A R R' : Type} {ec : Nat → Addr} {ea : A → List T} {mir : A → Res R'} {er : R' → T} {eo : R' → List (Option T)} {F : Fc} {tmp : Tmp} {s : State} {m : Res R} {K : Rs R} {N : Rn R} {Rt : Rr R} {t : TA} {E : XK} {te : TE}
/-- a call in a try -/
theorem rd_callS {W : WX} (hec : F.ec = ec) (hE : ∀ σ : L2.St, σ.length = s.length → (∀ k v, F.pv k = some v → σ[k]? = some (some v)) → ∀ c d H', F.E c d H' → W c d σ H')
    (h : RA F tmp s m t (fun tms s1 m1 => ∃ (a : A) (k : R' → Res R), m1 = rb (mir a) k ∧ tms.map (treeAt s1) = (ea a).map some ∧ aliNd tms = true ∧ ∀ r, K (.own (er r)) (putOuts s1 tms (eo r)) (k r))) :
    RD F tmp s (tCallS (spOf ec ea mir er eo) (WE W) t) m K := fun σ H Q hh nf eo' q => h σ H _ hh nf eo' fun tms s1 vs H1 hx hl h1 => by
  have hp : ∀ k v, F.pv k = some v → σ[k]? = some (some v) := let ⟨_, _, z⟩ := hh; z.pn
  have := call_core (E := WE W σ) hec (.inl (hE σ hh.len hp)) nf eo' q hx hl h1
  rwa [List.append_nil] at this
/-! raise -/
theorem Hd.errP {G H : Hp} {ω : Addr → Option Lab} {σ : L2.St} (h : Hd F G ω tmp s σ H) (k : Nat) : ErrP F ⟨k, none⟩ none H :=
  ⟨G, h.g0, h.gH, h.gn, h.fr, h.ex, rfl⟩
theorem rs_raise {k : Nat} {C : Addr} (hE : F.E = E) (hC : F.ec k = C) (e : m = .err ⟨k, none⟩) : RS F tmp s m (fun _ _ H => E (.ref C) none H) N Rt := fun σ H D hh nf eo nx rt => by
  obtain ⟨G, ω, h⟩ := hh
  rw [← hE, ← hC]
  exact eo ⟨k, none⟩ e none H (h.errP k)
/-- self.f = v in an exception's __init__ -/
def spInit (K : PySem.W.Frag) (f : Str) : Sp := fun vs H Q _ => ∃ (a C : Addr) (v : V), vs = [.ref a, v] ∧ H a = some (exo a C none) ∧ OexC K C ∧ PySem.W.findIn K (.ref C) f = some none ∧
  ∀ dx, H dx = none → dx ≠ a → Q .non (upd (upd H dx (exd dx [(f, v)])) a (exo a C (some dx)))
theorem rs_raiseAt {k : Nat} {C : Addr} {Kf : PySem.W.Frag} (hE : F.E = E) (hC : F.ec k = C) (hO : OexC Kf C) (hno : PySem.W.findIn Kf (.ref C) "at" = some none)
    (h : RD F tmp s te m (fun tm s1 m1 => ∃ d, tm = .own (.f d) ∧ m1 = .err ⟨k, some d⟩)) :
    RS F tmp s m (fun _ σ H => tMkO C (spInit Kf "at") [] (tCons te tNil) σ H fun cls d H' => E cls d H') N Rt := fun σ H D hh nf eo nx rt => by
  refine h σ H _ hh nf eo fun tm s1 v H1 ⟨d, e1, em⟩ h1 => ?_
  subst e1
  refine ⟨by simp, fun a ha => ⟨a, C, v, rfl, upd_same, hO, hno, fun dx hdx ne => ?_⟩⟩
  have hd1 : H1 dx = none := by rw [upd_ne ne] at hdx; exact hdx
  refine ⟨rfl, dx, [("at", v)], upd_same, by rw [upd_ne ne, upd_same], hd1, ?_⟩
  have eH : upd (L2.del (upd (upd (upd H1 a (exo a C none)) dx (exd dx [("at", v)])) a (exo a C (some dx))) a) dx (.xd [("at", v)]) = upd H1 dx (.xd [("at", v)]) := by
    funext b
    by_cases hb : b = dx
    · rw [hb, upd_same, upd_same]
    · rw [upd_ne hb, upd_ne hb]
      by_cases hb2 : b = a
      · rw [hb2, L2.del_same, ha]
      · rw [L2.del_ne hb2, upd_ne hb2, upd_ne hb, upd_ne hb2]
  rw [eH]
  obtain ⟨G, ω, h1⟩ := h1
  have h2 := h1.newG (o := .xd [("at", v)]) hd1
  rw [← hE, ← hC]
  have r : Rep G d v := h1.tm.1
  exact eo ⟨k, some d⟩ em (some dx) _ ⟨_, h2.g0, h2.gH, h2.gn, h2.fr, h2.ex, dx, v, rfl, h1.new hd1, upd_same, Rep.mono (fun b u e => upd_keep (h1.gfree hd1) e) _ _ r⟩
end
/-! try -/
def keepP (ps : List Nat) : Nat → State → State
  | _, [] => []
  | n, x :: r => (match ps.contains n, x with | true, some (.f d) => some (.f d) | _, _ => none) :: keepP ps (n + 1) r
theorem keepP_len (ps : List Nat) : ∀ (n : Nat) (s : State), (keepP ps n s).length = s.length
  | _, [] => rfl
  | n, _ :: r => by simp [keepP, keepP_len ps (n + 1) r]
theorem keepP_get (ps : List Nat) : ∀ (n : Nat) (s : State) (i : Nat) (t : T), (keepP ps n s)[i]? = some (some t) → ∃ d, t = .f d ∧ s[i]? = some (some (.f d)) ∧ n + i ∈ ps
  | _, [], i, t, h => by simp [keepP] at h
  | n, x :: r, 0, t, h => by
    simp only [keepP, List.getElem?_cons_zero, Option.some.injEq] at h
    split at h
    · rename_i d hc
      cases h
      exact ⟨d, rfl, rfl, by simpa using hc⟩
    · cases h
  | n, x :: r, i + 1, t, h => by
    simp only [keepP, List.getElem?_cons_succ] at h
    obtain ⟨d, e1, e2, e3⟩ := keepP_get ps (n + 1) r i t h
    exact ⟨d, e1, by simpa using e2, by rwa [show n + (i + 1) = n + 1 + i by omega]⟩
theorem Holds.cleared {F : Fc} {tmp : Tmp} {s : State} {σ : L2.St} {H : Hp} {i : Nat} (h : Holds F tmp s σ H) (hs : s[i]? = some none) (na : noAli i tmp = true) (hp : F.pv i = none) : Holds F tmp s (σ.set i none) H := by
  obtain ⟨G, ω, h⟩ := h
  refine ⟨G, ω, { h with len := by rw [List.length_set]; exact h.len, sl := fun k t e => ?_, tm := Tms.slots tmp (fun k hk => ?_) h.tm, pn := fun k v e => ?_ }⟩
  · obtain ⟨v, a, b⟩ := h.sl k t e
    have : i ≠ k := fun z => by subst z; rw [hs] at e; cases e
    exact ⟨v, by rw [List.getElem?_set_ne this]; exact a, b⟩
  · have : i ≠ k := fun z => by subst z; rw [na] at hk; cases hk
    rw [List.getElem?_set_ne this]
  · have : i ≠ k := fun z => by subst z; rw [hp] at e; cases e
    rw [List.getElem?_set_ne this]; exact h.pn k v e
end VL

set_option maxHeartbeats 1000000
namespace VL
open PySem L2
/-! the classes of refusals -/
def xname : Nat → Str | 0 => "NetError" | 1 => "NoStanding" | 2 => "NoFit" | 3 => "NoText" | 4 => "NoName" | 5 => "NoRow" | 6 => "NoStep" | 7 => "Unfolding" | 8 => "Put" | _ => "Desk"
def clsA (K : PySem.W.Frag) (k : Nat) : Addr := match PySem.W.nsIn K mainGlobals (xname k) with | some (some (.ref c)) => c | _ => 0
def ecOf (P : Program) (w : World) (K : PySem.W.Frag) : EC := ⟨clsA K, P, w⟩
theorem clsA_of {K : PySem.W.Frag} {k : Nat} {c : Addr} (h : PySem.W.nsIn K mainGlobals (xname k) = some (some (.ref c))) : clsA K k = c := by
  unfold clsA; rw [h]
def isub (k j : Nat) : Bool := k == j || j == 0
open PySem.W in
def xOne (K : PySem.W.Frag) (C : Addr) : Bool :=
  (clsIn K C).isSome && (decide (findIn K (.ref C) "__getattribute__" = some (some (.builtin "BaseException.__getattribute__"))) && (decide (findIn K (.ref C) "__getattr__" = some none) && (decide (subIn K (.ref C) (.type "BaseException") = some true) &&
    (decide (findIn K (.ref C) "__class__" = some (some (.builtin "object.__class__"))) && (decide (specialIn K (.builtin "object.__class__") "__get__" = some (some (.builtin "getset_descriptor.__get__"))) &&
      (decide (takesIn K (.builtin "object.__class__") = some true) && (decide (mroIn K C (.type "object") = some true) && (hasDictIn K C && (decide (kitOne K (.ref C) (.type "ValueError") = some true) &&
        (decide (kitOne K (.type "NoneType") (.ref C) = some false) && decide (findIn K (.ref C) "at" = some none)))))))))))
open PySem.W in
def xPair (K : PySem.W.Frag) (C D : Addr) (b : Bool) : Bool := decide (kitOne K (.ref C) (.ref D) = some b) && decide (exmOne K (.ref C) (.ref D) = some b)
def xAll (K : PySem.W.Frag) (ks : List Nat) : Bool := ks.all fun k => xOne K (clsA K k) && ks.all fun j => xPair K (clsA K k) (clsA K j) (isub k j)
open PySem.W in
structure XOne (K : PySem.W.Frag) (C : Addr) : Prop where
  cl : (clsIn K C).isSome = true
  ga : findIn K (.ref C) "__getattribute__" = some (some (.builtin "BaseException.__getattribute__"))
  gg : findIn K (.ref C) "__getattr__" = some none
  su : subIn K (.ref C) (.type "BaseException") = some true
  ha : findIn K (.ref C) "__class__" = some (some (.builtin "object.__class__"))
  hn : specialIn K (.builtin "object.__class__") "__get__" = some (some (.builtin "getset_descriptor.__get__"))
  ht : takesIn K (.builtin "object.__class__") = some true
  hm : mroIn K C (.type "object") = some true
  hd : hasDictIn K C = true
  kv : kitOne K (.ref C) (.type "ValueError") = some true
  kn : kitOne K (.type "NoneType") (.ref C) = some false
  no : findIn K (.ref C) "at" = some none
theorem xOne_ok {K : PySem.W.Frag} {C : Addr} (h : xOne K C = true) : XOne K C := by
  unfold xOne at h
  simp only [Bool.and_eq_true, decide_eq_true_eq] at h
  obtain ⟨h1, h2, h3, h4, h5, h6, h7, h8, h9, h10, h11, h12⟩ := h
  exact ⟨h1, h2, h3, h4, h5, h6, h7, h8, h9, h10, h11, h12⟩
/-- what a text's own classes of refusals are -/
structure XF [EC] (K : PySem.W.Frag) (ks : List Nat) : Prop where
  one : ∀ k ∈ ks, XOne K (EC.ec k)
  kit : ∀ k ∈ ks, ∀ j ∈ ks, PySem.W.kitOne K (.ref (EC.ec k)) (.ref (EC.ec j)) = some (isub k j)
  exm : ∀ k ∈ ks, ∀ j ∈ ks, PySem.W.exmOne K (.ref (EC.ec k)) (.ref (EC.ec j)) = some (isub k j)
theorem xf_mk {P : Program} {w : World} {K : PySem.W.Frag} {ks : List Nat} (h : xAll K ks = true) : @XF (ecOf P w K) K ks := by
  unfold xAll at h
  simp only [List.all_eq_true, Bool.and_eq_true, xPair, decide_eq_true_eq] at h
  exact @XF.mk (ecOf P w K) K ks (fun k hk => xOne_ok (h k hk).1) (fun k hk j hj => ((h k hk).2 j hj).1) (fun k hk j hj => ((h k hk).2 j hj).2)
/-! isinstance(x, C), C a class of refusals or ValueError -/
variable [EC]
section
variable {R : Type} {F : Fc} {tmp : Tmp} {s : State} {m : Res R} {K : Rs R} {ta : TE} {Kf : PySem.W.Frag}
end
/-! e.at -/
section
variable {R : Type} {F : Fc} {tmp : Tmp} {s : State} {m : Res R} {K : Rs R} {ta : TE} {Kf : PySem.W.Frag}
end
end VL

namespace VL
open PySem L2
def clsB : Stmt → List Stmt | .ClassDef _ _ _ b _ _ _ _ _ _ _ => b | _ => []
/-- the law, behind its top -/
theorem walk_ofE {l : PySem.W.OpenLaw} {k : Nat} {q : Program} {loose : List Str} {XP : (Str → Option Value) → Heap → Prop} {YP : World → Heap → Prop} {d : DefRec} {K : Params → PySem.W.Frag} {mir : D → Res D}
    (hn : l.most = some 63) (hdf : d.params.defaults = []) (hr : Room k callerA) (hY : ∀ (w : World) (h : Heap), YP w h → (K w.params).In h)
    (F : ∀ (w : World) (mg : Str → Option Value) (fa : Addr) (h : Heap), (K w.params).In h → h.Ns mainGlobals mg → mg d.name = some (.ref fa) →
      ∃ fd : FuncData, (∀ (s : Shared) (u : Value), BindsTo s fd ⟨[u], []⟩ [("script", u)]) ∧
        ∀ base : Heap, (K w.params).In base → base.Ns mainGlobals mg → FnOk l.prog w (K w.params) mg base CX0 k fa fd ["script"] (@spOf (ecOf l.prog w (K w.params)) D D (@EC.ec (ecOf l.prog w (K w.params))) (fun a => [.f a]) mir (fun r => .f r) fun _ => [none]))
    (hno : ∀ w : World, ((K w.params).all fun p => noL p.2) = true) (hm : ∀ ns : List Int, ns.length ≤ 63 → mir (.lst (ns.map .int)) = .ok (.bl true)) :
    PySem.W.WalkO q loose XP YP l.row.toRowW d [] (fun f vs => PySem.call f vs) :=
  walk_of (n := 63) (CX := fun _ => CX0) (sp := fun w => @spOf (ecOf l.prog w (K w.params)) D D (@EC.ec (ecOf l.prog w (K w.params))) (fun a => [.f a]) mir (fun r => .f r) fun _ => [none]) hn (by decide) hdf hr hY F
    (fun w H a ns hl _ hS => @law_end (ecOf l.prog w (K w.params)) (K w.params) H a ns _ mir (hno w) hl hS (hm ns hl)) (fun _ _ _ _ _ h => h)
end VL
namespace VL
open PySem L2
theorem xf_exm [EC] {K : PySem.W.Frag} {ks ok : List Nat} {j : Nat} (T : XF K ks) (hj : j ∈ ks) (h : (ok.all fun k => ks.contains k && isub k j) = true) : ∀ k, ok.contains k = true → PySem.W.exmOne K (.ref (EC.ec k)) (.ref (EC.ec j)) = some true := fun k hk => by
  have := List.all_eq_true.mp h k (by simpa using hk)
  simp only [Bool.and_eq_true] at this
  rw [T.exm k (by simpa using this.1) j hj, this.2]
end VL

namespace VL
open PySem L2 PySem.Spec PyProof.Rows
def listSD : D → Option (List D) | .str x => if x.length ≤ 1000 then some (strL x) else none | _ => none
variable [EC]
def charsV (a : Str) : List V := a.cps.toList.map fun c => V.str ⟨#[c]⟩
def rListS : List V → Hp → VK → Prop := fun xs H Q => ∃ a : Str, xs = [.str a] ∧ a.length ≤ sizeLine ∧ ∀ p, H p = none → Q (.ref p) (upd H p (.lst (charsV a)))
theorem vals_signs {x : Str} {acc : Array Value} (h : ItemsOf (SignAt x) acc x.cps.size) : Vals (charsV x) acc.toList := by
  refine vals_of_at (by simp [charsV, h.1]) fun j y u h1 h2 => ?_
  obtain ⟨c, t, hc, rfl⟩ := h.2 j u (by rw [← h2, Array.getElem?_toList])
  simp only [charsV, List.getElem?_map, Array.getElem?_toList, hc] at h1
  cases h1
  exact ⟨t, rfl⟩
theorem reps_strL {G : Hp} : ∀ x : List Nat, Reps G (strL x) (x.map fun c => V.str ⟨#[c]⟩)
  | [] => rfl
  | c :: r => ⟨_, _, rfl, rfl, reps_strL r⟩
section
variable {X : Cx} {Kf : PySem.W.Frag}
theorem call_listSK (hc : X.calm = true) : CallR X (.type "list") rListS := by
  intro pins s σ H xs us Q I r h
  obtain ⟨a, rfl, hz, q⟩ := h
  obtain ⟨u, rfl, t, rfl⟩ := vals1 r
  refine call_list_str (I.ok.hd hc) a t (fun h' tk acc c kp e hacc => ?_) hz
  exact ⟨.ref s.heap.objs.size, _, I.laid (t' := tk) kp (Nat.le_refl _) (show ObjOk X.prog X.w _ h' _ (.lst (charsV a)) from ⟨by simpa [charsV, Str.length] using hz, acc.toList, c, vals_signs hacc, by simpa using e⟩), rfl, q _ (I.hok.fresh (Nat.le_refl _))⟩
end
theorem o_listS : Op1L (fun x H Q => rListS [x] H Q) listSD := fun G H x a c Q sm ra e => by
  cases a <;> try (cases e; done)
  rename_i a
  simp only [listSD] at e
  split at e
  · rename_i hx
    cases e
    refine ⟨by rw [sizeLine_eq]; simp [strL]; omega, fun q => ⟨mkS a, by rw [show x = _ from ra], by rw [mkS_len, sizeLine_eq]; omega, fun p np => q p _ np ?_⟩⟩
    show Reps G _ ((mkS a).cps.toList.map _)
    rw [mkS_cps]
    exact reps_strL a
  · cases e
section
variable {X : Cx} {Kf : PySem.W.Frag}
end
section
variable {R : Type} {F : Fc} {tmp : Tmp} {s : State} {m : Res R} {K : Rs R} {N : Rn R} {Rt : Rr R} {ta tb tc to te td ty tx : TE} {Kf : PySem.W.Frag}
theorem rs_onN {Z R' : Type} {z : Z} {f : Z → Res R} {g : R' → Res R} {tb : TS} (h : RS F tmp s (f z) tb N Rt) : RS F tmp s (Fl.on (.nx z) f g) tb N Rt := h
theorem rs_frz (i : Nat) {t : T} {tb : TS} (s' : State) (h : s[i]? = some (some t)) (e : s.set i (some (.f t.er)) = s') (k : RS F tmp s' m tb N Rt) : RS F tmp s m tb N Rt := by
  subst e
  exact fun σ H De hh nf eo nx rt => k σ H De (hh.frzSlot h) nf eo nx rt
/-! tuple(..), list(..) -/
/-! list.count of texts -/
end
end VL

namespace VL
open PySem L2 PySem.W PyProof.Rows
mutual
def py : D → PyData
  | .non => .none
  | .bl b => .bool b
  | .int i => .int i
  | .str x => .str (mkS x)
  | .tup l => .tuple (pys l)
  | .lst l => .list (pys l)
  | _ => .none
def pys : List D → List PyData
  | [] => []
  | a :: r => py a :: pys r
end
theorem pys_map : ∀ l : List D, pys l = l.map py
  | [] => rfl
  | a :: r => by rw [pys, pys_map r]; rfl
mutual
theorem py_depth : ∀ d : D, d.plain = true → (py d).depth ≤ d.dep
  | .non, _ => by simp [py, PyData.depth, D.dep]
  | .bl b, _ => by simp [py, PyData.depth, D.dep]
  | .int i, _ => by simp [py, PyData.depth, D.dep]
  | .str x, _ => by simp [py, PyData.depth, D.dep]
  | .tup l, p => by have := pys_depth l p; simp [py, PyData.depth, D.dep]; omega
  | .lst l, p => by have := pys_depth l p; simp [py, PyData.depth, D.dep]; omega
  | .dct _ _, p => by cases p
  | .opq _, p => by cases p
  | .exc _ _, p => by cases p
  | .fd _ _ _, p => by cases p
  | .fz _, p => by cases p
theorem pys_depth : ∀ l : List D, D.plains l = true → PyData.depthAll (pys l) ≤ D.deps l
  | [], _ => by simp [pys, PyData.depthAll, D.deps]
  | a :: r, p => by
    simp only [D.plains, Bool.and_eq_true] at p
    have h1 := py_depth a p.1
    have h2 := pys_depth r p.2
    simp [pys, PyData.depthAll, D.deps]; omega
end
def alikes (l : List D) : Bool := l.all fun x => l.all fun y => alike (py x) (py y)
def isTupD : D → Bool | .tup (_ :: _) => true | _ => false
def noTupD : D → Bool | .tup _ => false | .non => false | _ => true
def sortOk (l : List D) : Bool := D.plains l && decide (D.deps l ≤ 60) && alikes l && (l.all isTupD || l.all noTupD) && decide (l.length ≤ 16777216)
def leD' : D → D → Bool := dataLe false py
def sortD : D → Option (List D) | .lst l => if sortOk l = true then some (l.mergeSort leD') else none | _ => none
variable [EC]
section
variable {X : Cx} {pins : List (Addr × Obj)} {σ : List (Option V)} {H : Hp} {s : Shared}
mutual
theorem rep_reads (I : Inv X pins σ H s) : ∀ (d : D) (x : V) (u : Value), d.plain = true → Rep H d x → RelV x u → ∃ as, Reads s.heap u (py d) as
  | .non, x, u, _, h, r => by
    cases (show x = .non from h); cases r; exact ⟨[], .none⟩
  | .bl b, x, u, _, h, r => by
    cases (show x = .bl b from h); cases r; exact ⟨[], .bool _⟩
  | .int i, x, u, _, h, r => by
    cases (show x = .int i from h); obtain ⟨t, rfl⟩ := r; exact ⟨[], .int _ _⟩
  | .str y, x, u, _, h, r => by
    cases (show x = .str (mkS y) from h); obtain ⟨t, rfl⟩ := r; exact ⟨[], .str _ _⟩
  | .tup l, x, u, p, h, r => by
    obtain ⟨a, vs, its, ea, eu, ht, v1, q1, n1⟩ := at_tup I h r
    obtain ⟨o, ho, hc, n, hd⟩ := ht
    obtain ⟨as, rs⟩ := reps_reads I l vs its p q1 v1
    rw [eu]
    exact ⟨as, .tuple ho hc hd (by simpa using rs)⟩
  | .lst l, x, u, p, h, r => by
    obtain ⟨a, vs, its, ea, eu, ht, v1, q1, n1⟩ := at_lst I h r
    obtain ⟨o, ho, hc, n, hd⟩ := ht
    obtain ⟨as, rs⟩ := reps_reads I l vs its p q1 v1
    rw [eu]
    exact ⟨a :: as, .list ho hc hd (by simpa using rs)⟩
  | .dct _ _, _, _, p, _, _ => by cases p
  | .opq _, _, _, p, _, _ => by cases p
  | .exc _ _, _, _, p, _, _ => by cases p
  | .fd _ _ _, _, _, p, _, _ => by cases p
  | .fz _, _, _, p, _, _ => by cases p
theorem reps_reads (I : Inv X pins σ H s) : ∀ (l : List D) (xs : List V) (us : List Value), D.plains l = true → Reps H l xs → Vals xs us → ∃ as, ReadsAll s.heap us (pys l) as
  | [], xs, us, _, h, r => by
    cases (show xs = [] from h); cases r; exact ⟨[], .nil⟩
  | d :: l, xs, us, p, ⟨x, r0, e, h, q⟩, r => by
    subst e
    simp only [D.plains, Bool.and_eq_true] at p
    cases r with
    | cons z1 v1 =>
      obtain ⟨as, h1⟩ := rep_reads I d x _ p.1 h z1
      obtain ⟨bs, h2⟩ := reps_reads I l r0 _ p.2 q v1
      exact ⟨as ++ bs, .cons h1 h2⟩
end
def RelD (H : Hp) (v : Value) (d : D) : Prop := ∃ x, RelV x v ∧ Rep H d x
theorem each_of : ∀ (l : List D) (xs : List V) (us : List Value), Reps H l xs → Vals xs us → EachIs (RelD H) us l
  | [], xs, us, h, r => by cases (show xs = [] from h); cases r; exact .nil
  | d :: l, xs, us, ⟨x, r0, e, h, q⟩, r => by
    subst e
    cases r with
    | cons z1 v1 => exact .cons ⟨x, z1, h⟩ (each_of l r0 _ q v1)
theorem of_each : ∀ {us : List Value} {l : List D}, EachIs (RelD H) us l → ∃ xs, Vals xs us ∧ Reps H l xs
  | _, _, .nil => ⟨[], .nil, rfl⟩
  | _, _, .cons ⟨x, z, h⟩ t => by
    obtain ⟨xs, v, r⟩ := of_each t
    exact ⟨x :: xs, .cons z v, x, xs, rfl, h, r⟩
def rSortD (K : PySem.W.Frag) : List V → Hp → VK → Prop := fun vs H Q => ∃ (a : Addr) (xs : List V) (l : List D) (G : Hp), vs = [V.ref a] ∧ SqL K H a xs ∧ Same G H ∧ Reps G l xs ∧ sortOk l = true ∧ ∀ ys p, Reps G (l.mergeSort leD') ys → H p = none → Q (.ref p) (upd H p (.lst ys))
theorem plains_mem {l : List D} (h : D.plains l = true) {d : D} (m : d ∈ l) : d.plain = true := by
  induction l with
  | nil => cases m
  | cons a r ih =>
    simp only [D.plains, Bool.and_eq_true] at h
    rcases List.mem_cons.mp m with e | m
    · rw [e]; exact h.1
    · exact ih h.2 m
theorem deps_mem {l : List D} {d : D} (m : d ∈ l) : d.dep ≤ D.deps l := by
  induction l with
  | nil => cases m
  | cons a r ih =>
    simp only [D.deps]
    rcases List.mem_cons.mp m with e | m
    · rw [e]; omega
    · have := ih m; omega
theorem cr_sortedK {Kf : PySem.W.Frag} (hK : X.K = Kf) (hu : X.A.units + 64 < cLine) : CallR X (.builtin "sorted") (rSortD Kf) := by
  subst hK
  intro pins s σ H vs us Q I r h
  obtain ⟨a, xs, l, G, rfl, hs, sm, hrG, hok, q⟩ := h
  have hr := Reps.mono sm _ _ hrG
  obtain ⟨its, rv, hl, hz⟩ := I.list hs
  rw [Vals.ref1 r]
  simp only [sortOk, Bool.and_eq_true, decide_eq_true_eq, Bool.or_eq_true] at hok
  obtain ⟨⟨⟨⟨p1, p2⟩, p3⟩, p4⟩, p5⟩ := hok
  have e := each_of l xs its hrG rv
  have er : EachIs (fun v b => ∃ as, Reads s.heap v (py b) as) its l := by
    obtain ⟨as, ra⟩ := reps_reads I l xs its p1 hr rv
    rw [pys_map] at ra
    exact readsAll_each py ra
  have hal : AllAlike (l.map py) := by
    intro d hd d' hd'
    obtain ⟨b, hb, rfl⟩ := List.mem_map.mp hd
    obtain ⟨b', hb', rfl⟩ := List.mem_map.mp hd'
    exact List.all_eq_true.mp (List.all_eq_true.mp p3 b hb) b' hb'
  have hk : Sortable (l.map py) := by
    rcases p4 with p4 | p4
    · refine .inl fun d hd => ?_
      obtain ⟨b, hb, rfl⟩ := List.mem_map.mp hd
      have := List.all_eq_true.mp p4 b hb
      cases b <;> try (cases this; done)
      rename_i l0
      cases l0 with
      | nil => cases this
      | cons x0 r0 => exact ⟨_, _, rfl⟩
    · refine .inr fun d hd => ?_
      obtain ⟨b, hb, rfl⟩ := List.mem_map.mp hd
      have h1 := List.all_eq_true.mp p4 b hb
      have h2 := plains_mem p1 hb
      cases b <;> first | (cases h1; done) | (cases h2; done) | exact ⟨(fun z => by cases z), fun _ z => by cases z⟩
  refine sorted_data hl.isList e er hal hk (by rw [sizeLine_eq]; omega) (fun b hb => ?_) fun out ho eo => ?_
  · have h1 := py_depth b (plains_mem p1 hb)
    have h2 := deps_mem hb
    omega
  · obtain ⟨ep, he'⟩ := PyProof.Rows.sortedAll_at s.heap its out.toArray
    obtain ⟨ys, v1, r1⟩ := of_each eo
    have hlen : ys.length ≤ sizeLine := by rw [v1.length, ho, sizeLine_eq]; omega
    exact ⟨.ref _, upd H (s.heap.objs.size + 1) (.lst ys), I.laid (t' := s.toks) (fun _ _ => PyProof.Rows.sortedAll_old) (Nat.le_succ _) ⟨hlen, out, ep, v1, he'⟩, rfl, q ys _ r1 (I.hok.fresh (Nat.le_succ _))⟩
end
theorem o_sorted {K : PySem.W.Frag} : Op1L (fun x H Q => rSortD K [x] H Q) sortD := fun G H x a c Q sm ra e => by
  cases a <;> try (cases e; done)
  rename_i l
  simp only [sortD] at e
  split at e
  · rename_i hok
    cases e
    obtain ⟨p, vs, e, g, z, r⟩ := ra
    subst e
    refine ⟨by rw [List.length_mergeSort]; exact z, fun q => ⟨p, vs, l, G, rfl, .inl g, sm, r, hok, fun ys p rs np => q p ys np rs⟩⟩
  · cases e
end VL

namespace VL
open PySem L2 PySem.SeqAt
/-! dict and text are never equal -/
section
variable {prog : Program} {w : World} {A : Around} {E : Value → Shared → Prop} {s : Shared}
end
section
variable {A : Around} {s : Shared}
end
variable [EC]
section
variable {X : Cx} {pins : List (Addr × Obj)} {σ : List (Option V)} {H : Hp} {s : Shared}
end
end VL

namespace VL
open PySem L2 PySem.Spec PyProof.Rows PySem.W
/-! zip(list, text) in a loop -/
/-! tuples: the value of a frozen tuple; slices, sums, walks -/
variable [EC]
section
variable {F : Fc} {G H : Hp} {ω : Addr → Option Lab} {tmp : Tmp} {s : State} {σ : L2.St} {v : V} {t : T}
end
section
variable {R : Type} {F : Fc} {tmp : Tmp} {s : State} {m : Res R} {K : Rs R} {ta tb te to : TE} {Kf : PySem.W.Frag}
end
end VL

namespace L2
open PySem PySem.Spec PyProof.Rows
section
variable {X : Cx} {pins : List (Addr × Obj)} {σ : L2.St}
end
end L2
namespace VL
open PySem L2
variable [EC]
section
variable {R : Type} {F : Fc} {tmp : Tmp} {s : State} {m : Res R} {K : Rs R} {N : Rn R} {Rt : Rr R} {ta tb : TE} {Kf : PySem.W.Frag}
end
end VL
namespace VL
open PySem L2
section
variable {X : Cx} {Kf : PySem.W.Frag}
end
end VL

namespace VL
open PySem L2
section
variable {X : Cx} {pins : List (Addr × Obj)} {σ : L2.St} {H : Hp} {s : Shared} {d : Addr} {kvs : List (Key × V)}
end
variable [EC]
section
variable {F : Fc} {G H : Hp} {ω : Addr → Option Lab} {tmp : Tmp} {s : State} {σ : L2.St} {v : V}
end
section
variable {R : Type} {F : Fc} {tmp : Tmp} {s : State} {m : Res R} {K : Rs R} {ta td : TE}
theorem rep_kD {G : Hp} (k : Key) : Rep G (kD k) (kV k) := by
  cases k with
  | inl i => rfl
  | inr x => show V.str x = V.str (mkS x.cps.toList); rw [mkS_of]
end
end VL

namespace VL
open PySem L2
variable [EC]
section
variable {R : Type} {F : Fc} {tmp : Tmp} {s : State} {m : Res R} {K : Rs R} {N : Rn R} {Rt : Rr R} {te ti tj tn : TE} {Kf : PySem.W.Frag}
end
end VL

namespace VL
open PySem L2 PySem.W PyProof.Rows
variable [EC]
/-! sorted, list, len of a dict -/
theorem repK_keys {G : Hp} : ∀ {l : List (D × D)} {kvs : List (Key × V)}, RepK G l kvs → l.map (·.1) = kvs.map fun kv => kD kv.1
  | [], _, h => by cases (show _ = [] from h); rfl
  | (kd, d) :: ds, _, ⟨kk, v, r, e, ek, h, q⟩ => by subst e; simp [ek, repK_keys q]
def sortDD : D → Option (List D) | .dct false l => if sortOk (l.map (·.1)) = true then some ((l.map (·.1)).mergeSort leD') else none | _ => none
def rSortDK : List V → Hp → VK → Prop := fun vs H Q => ∃ (a : Addr) (kvs : List (Key × V)) (l : List D), vs = [V.ref a] ∧ Rd H a (.dK kvs) ∧ l = (kvs.map fun kv => kD kv.1) ∧ sortOk l = true ∧ ∀ ys p, Reps H (l.mergeSort leD') ys → H p = none → Q (.ref p) (upd H p (.lst ys))
theorem reps_flat {G H : Hp} {l : List D} (hl : ∀ d ∈ l, d.flat = true) {ys : List V} (r : Reps H l ys) : Reps G l ys := by
  induction l generalizing ys with
  | nil => exact r
  | cons d l ih =>
    obtain ⟨v, r0, e, h, q⟩ := r
    refine ⟨v, r0, e, ?_, ih (fun d' h' => hl d' (List.mem_cons_of_mem _ h')) q⟩
    have := hl d List.mem_cons_self
    cases d <;> first | (cases this; done) | exact h
theorem kD_flat (k : Key) : (kD k).flat = true := by cases k <;> rfl
section
variable {X : Cx} {pins : List (Addr × Obj)} {σ : List (Option V)} {H : Hp} {s : Shared}
theorem key_reads (h : Heap) (k : Key) {v : Value} (r : RelV (kV k) v) : Reads h v (py (kD k)) [] := by
  cases k with
  | inl i => obtain ⟨t, rfl⟩ := r; exact .int _ _
  | inr x =>
    obtain ⟨t, rfl⟩ := r
    show Reads h _ (.str (mkS x.cps.toList)) []
    rw [mkS_of]; exact .str _ _
theorem each_keys (h : Heap) (a : Addr) : ∀ (ks : List Key) (us : List Value), Vals (ks.map kV) us → EachIs (RelD H) us (ks.map kD) ∧ EachIs (fun v b => ∃ as, Reads h v (py b) as ∧ a ∉ as) us (ks.map kD)
  | [], us, r => by cases r; exact ⟨.nil, .nil⟩
  | k :: ks, us, r => by
    cases r with
    | cons z1 v1 =>
      obtain ⟨e1, e2⟩ := each_keys h a ks _ v1
      exact ⟨.cons ⟨kV k, z1, rep_kD k⟩ e1, .cons ⟨[], key_reads h k z1, by simp⟩ e2⟩
theorem cr_sortedDK (hcalm : X.calm = true) (hu : X.A.units + 64 < cLine) : CallR X (.builtin "sorted") rSortDK := by
  intro pins s σ H xs us Q I r q
  obtain ⟨a, kvs, l, ex, hd, hks, hok, q⟩ := q
  subst ex
  obtain ⟨u, eu, rx⟩ := vals1 r
  subst eu
  cases rx
  obtain ⟨z, lo, vs, rel, dd⟩ := dk_rd I.hok hd
  obtain ⟨ep, hat⟩ := dd.dictAt
  simp only [sortOk, Bool.and_eq_true, decide_eq_true_eq, Bool.or_eq_true] at hok
  obtain ⟨⟨⟨⟨p1, p2⟩, p3⟩, p4⟩, p5⟩ := hok
  have hl : vs.length = l.length := by rw [hks, List.length_map, ← rel.length]
  have h16 : vs.length ≤ sizeLine := by rw [hl, sizeLine_eq]; exact p5
  refine Calls.call_function_entry PyProof.Rows.kind_sorted PyProof.Rows.plain_sorted PyProof.Rows.entry_sorted (PyProof.Rows.args_sorted1 _) ?_
  unfold Builtin.«sorted»
  refine wpAny_bind (m := checkCount "sorted" 1 1 _) (wpAny_pure ?_)
  refine wpAny_bind (PySem.W.kdu_collect (A := X.A.in1) (PySem.W.kdl_dict (knd := mixKind X.prog X.w) (kvs := vs) (ep := ep) lo) (I.ok.hd hcalm) hat h16 fun h' tk acc hk hacc => ?_)
  have hv : Vals (vs.map fun p => kV p.1) acc.toList := keys_at (by rw [Array.length_toList]; exact hacc.1) fun j v e => hacc.2 j v (by rw [← Array.getElem?_toList]; exact e)
  have hv2 : Vals ((vs.map (·.1)).map kV) acc.toList := by rw [List.map_map]; exact hv
  have hl2 : l = (vs.map (·.1)).map kD := by
    rw [hks]
    have e := congrArg (List.map kD) rel.keys
    rw [List.map_map] at e
    exact e
  have I1 : Inv X pins σ H { s with heap := h', toks := tk } := I.kept hk
  have hal : acc.toList.length = l.length := by rw [Array.length_toList, hacc.1, hl]
  refine wpAny_bind (wpAny_newList ?_ (by rw [hal, sizeLine_eq]; exact p5))
  have hoL : (h'.push (seqObj "list" acc.toList.toArray 0)).get? h'.objs.size = some (seqObj "list" acc.toList.toArray 0) := Heap.get?_push_size _ rfl
  show wpAny _ _ _ _ _ { s with heap := h'.push (seqObj "list" acc.toList.toArray 0), toks := tk }
  obtain ⟨e1, e2⟩ := each_keys (H := H) (h'.push (seqObj "list" acc.toList.toArray 0)) h'.objs.size _ _ hv2
  rw [← hl2] at e1 e2
  have halk : AllAlike (l.map py) := by
    intro d hd d' hd'
    obtain ⟨b, hb, rfl⟩ := List.mem_map.mp hd
    obtain ⟨b', hb', rfl⟩ := List.mem_map.mp hd'
    exact List.all_eq_true.mp (List.all_eq_true.mp p3 b hb) b' hb'
  have hflat : ∀ d ∈ l, d.flat = true := fun d hd => by
    rw [hks] at hd
    obtain ⟨kv, _, rfl⟩ := List.mem_map.mp hd
    exact kD_flat _
  have hk2 : Sortable (l.map py) := by
    refine .inr fun d hd => ?_
    obtain ⟨b, hb, rfl⟩ := List.mem_map.mp hd
    rw [hks] at hb
    obtain ⟨kv, _, rfl⟩ := List.mem_map.mp hb
    cases kv.1 <;> exact ⟨(fun z => by cases z), fun _ z => by cases z⟩
  refine wpAny_bind (wpAny_holding (list_sort_data (R := RelD H) (s := { s with heap := h'.push (seqObj "list" acc.toList.toArray 0), toks := tk }) hoL e1 e2 halk hk2 (by rw [sizeLine_eq]; exact p5) (fun b hb => ?_) fun out ho eo => ?_))
  · have h1 := py_depth b (plains_mem p1 hb)
    have h2 := deps_mem hb
    show X.A.in1.units + 1 + (py b).depth < cLine
    rw [in1_units]
    omega
  · obtain ⟨e', he'⟩ := PyProof.Rows.sortedHeap_at (vs := acc.toList) (out := out.toArray) hoL
    obtain ⟨ys, v1, r1⟩ := of_each eo
    have hlen : ys.length ≤ sizeLine := by rw [v1.length, ho, sizeLine_eq]; omega
    refine wpAny_pure ⟨_, rfl, .ref h'.objs.size, upd H h'.objs.size (.lst ys), I1.laid (t' := tk) (fun b u e => ?_) (Nat.le_refl _)
      (show ObjOk X.prog X.w _ _ _ (.lst ys) from ⟨hlen, out, e', v1, he'⟩), rfl, q ys _ r1 (I1.hok.fresh (Nat.le_refl _))⟩
    have hb : b < h'.objs.size := Heap.lt_size e
    rw [PyProof.Rows.sortedHeap_old (Nat.ne_of_lt hb) (by rw [size_push']; exact Nat.lt_succ_of_lt hb)]
    exact Heap.get?_push_of_some _ e
end
theorem o_sortedDK : Op1L (fun x H Q => rSortDK [x] H Q) sortDD := fun G H x a c Q sm ra e => by
  cases a <;> try (cases e; done)
  rename_i k l
  cases k <;> try (cases e; done)
  simp only [sortDD] at e
  split at e
  · rename_i hok
    cases e
    obtain ⟨p, kvs, e1, g, r⟩ := ra
    have hk := repK_keys r
    have hok2 := hok
    simp only [sortOk, Bool.and_eq_true, decide_eq_true_eq] at hok2
    refine ⟨by rw [List.length_mergeSort, sizeLine_eq]; exact hok2.2, fun q => ⟨p, kvs, l.map (·.1), by rw [e1], g, hk, hok, fun ys a rs np => q a ys np (reps_flat (fun d hd => ?_) rs)⟩⟩
    rw [List.mem_mergeSort, hk] at hd
    obtain ⟨kv, _, rfl⟩ := List.mem_map.mp hd
    exact kD_flat _
  · cases e
section
variable {R : Type} {F : Fc} {tmp : Tmp} {s : State} {m : Res R}
end
end VL

namespace VL
open PySem L2
/-! walks over own dicts; xs[::-1]; range with three arguments -/
variable [EC]
section
variable {F : Fc} {G H : Hp} {ω : Addr → Option Lab} {tmp : Tmp} {s : State} {σ : L2.St} {v : V}
end
section
variable {R : Type} {F : Fc} {tmp : Tmp} {s : State} {m : Res R} {K : Rs R} {N : Rn R} {Rt : Rr R} {ta tb tc td : TE} {Kf : PySem.W.Frag}
end
end VL

namespace VL
open PySem L2
variable [EC]
/-! list(range(..)), max of a list, isinstance of two builtin classes, displays of constants -/
section
variable {R : Type} {F : Fc} {G H : Hp} {tmp : Tmp} {s : State} {m : Res R} {K : Rs R} {ta tb te : TE} {Kf : PySem.W.Frag}
end
/-! max(xs) -/
/-! isinstance(x, (A, B)) -/
section
variable {R : Type} {F : Fc} {G H : Hp} {tmp : Tmp} {s : State} {m : Res R} {K : Rs R} {ta tb te : TE} {Kf : PySem.W.Frag}
/-! a display of constant texts -/
end
end VL

namespace VL
open PySem L2 PySem.W PyProof.Rows
variable [EC]
/-! sorted(d.items()), dict(pairs) -/
section
variable {X : Cx} {pins : List (Addr × Obj)} {σ : List (Option V)} {H : Hp} {s : Shared}
end
section
variable {R : Type} {F : Fc} {tmp : Tmp} {s : State} {m : Res R} {td ta : TE} {Kf : PySem.W.Frag}
/-! dict(pairs) -/
end
/-! a told list, many times -/
end VL

namespace VL
open PySem L2 PySem.Spec PyProof.Rows
/-! None or a list of its own; str.strip(signs) -/
variable [EC]
section
variable {R : Type} {F : Fc} {tmp : Tmp} {s : State} {m : Res R} {N : Rn R} {Rt : Rr R} {K : Rs R}
end
section
variable {R : Type} {F : Fc} {tmp : Tmp} {s : State} {m : Res R} {to te : TE} {Kf : PySem.W.Frag} {K : Rs R}
end
end VL

namespace VL
open PySem L2 PySem.W PySem.Spec PyProof.Rows
/-! dicts of flat values compared -/
def flatV : D → Bool | .int _ => true | .str _ => true | _ => false
variable [EC]
end VL

namespace VL
open PySem L2 PySem.W PySem.Spec PyProof.Rows
/-! max(d.values()) of a dict of whole numbers, told or own -/
variable [EC]
section
variable {X : Cx} {o : Expr} {to : TE} {name : Str} {apos cpos : Pos} {id : String} {r : V → List V → Hp → VK → Prop}
end
section
variable {R : Type} {F : Fc} {tmp : Tmp} {s : State} {m : Res R} {td : TE} {K : Rs R}
end
end VL

namespace VL
open PySem L2
/-! own tuples: a mask tells which parts are lists of their own -/
variable [EC]
section
variable {F : Fc} {tmp : Tmp} {s : State} {σ : St} {H : Hp} {v : V} {t : T}
end
section
variable {R : Type} {F : Fc} {tmp : Tmp} {s : State} {m : Res R} {K : Rs R} {N : Rn R} {Rt : Rr R} {ta tb te to ti : TE} {Kf : PySem.W.Frag}
end
end VL

namespace VL
open PySem L2 PySem.Spec PyProof.Rows
/-! str.upper() -/
variable [EC]
section
variable {R : Type} {F : Fc} {tmp : Tmp} {s : State} {m : Res R} {to te : TE} {Kf : PySem.W.Frag} {K : Rs R}
end
end VL

namespace VL
open PySem L2
/-! == of a text and a thing of any kind -/
variable [EC]
end VL

namespace VL
open PySem L2 RZ
/-! zip of two lists or two tuples; `in` of a dict as a value -/
variable [EC]
section
variable {R : Type} {F : Fc} {tmp : Tmp} {s : State} {m : Res R} {ta tb ty td : TE} {K : Rs R}
end
end VL

namespace VL
open PySem L2
variable [EC]
/-! a list of its own put into a list of such -/
section
variable {F : Fc} {tmp : Tmp} {s1 : State} {σ : St} {H2 : Hp} {y : V} {t : T}
end
section
variable {R : Type} {F : Fc} {tmp : Tmp} {s : State} {m : Res R} {N : Rn R} {Rt : Rr R} {te ti : TE}
end
end VL

namespace VL
open PySem L2
/-! own dicts of own lists -/
variable [EC]
section
variable {F : Fc} {tmp : Tmp} {s : State} {σ : St} {H : Hp} {v : V} {t : T}
end
section
variable {R : Type} {F : Fc} {tmp : Tmp} {s : State} {m : Res R} {K : Rs R} {N : Rn R} {Rt : Rr R} {ta tb te tk ty tv td : TE} {Kf : PySem.W.Frag}
end
end VL

namespace VL
open PySem L2
/-! a list of pairs, each with a list of its own behind -/
variable [EC]
section
variable {F : Fc} {tmp : Tmp} {s : State} {σ : St} {H : Hp} {v : V} {t : T}
end
section
variable {R : Type} {F : Fc} {tmp : Tmp} {s : State} {m : Res R} {K : Rs R} {N : Rn R} {Rt : Rr R} {te ti : TE} {u : TS} {Kf : PySem.W.Frag}
end
end VL

namespace VL
open PySem L2
/-! the parts of an own tuple, read in place -/
variable [EC]
section
variable {F : Fc} {tmp : Tmp} {s : State} {σ : St} {H : Hp} {v : V} {t : T}
end
section
variable {R : Type} {F : Fc} {tmp : Tmp} {s : State} {m : Res R} {K : Rs R} {N : Rn R} {Rt : Rr R} {ta tb te to ti : TE} {Kf : PySem.W.Frag}
end
end VL

namespace VL
open PySem PySem.Spec PyProof.Rows L2
/-! e.replace(a, b) of written texts; behind len(..) a token is out -/
def PTT (X : Cx) (e : Expr) (t : TT) : Prop :=
  ∀ (pins : List (Addr × Obj)) (s : Shared) (σ : L2.St) (H : Hp) (Q : Bool → Hp → Prop), 1 ≤ s.toks → Inv X pins σ H s → t σ H Q → wpAny (model X.prog X.w) X.A (isTrue e X.env (eval e X.env)) (TP X pins σ Q) X.xe s
def PWT (X : Cx) (e : Expr) (t : TT) : Prop :=
  ∀ (whole : Sem Value) (pins : List (Addr × Obj)) (s : Shared) (σ : L2.St) (H : Hp) (Q : Bool → Hp → Prop), 1 ≤ s.toks → Inv X pins σ H s → t σ H Q → wpAny (model X.prog X.w) X.A (isTrue e X.env whole) (TP X pins σ Q) X.xe s
section
variable {X : Cx} {a b c e : Expr} {rest : List Expr} {ta tb te : TE} {tA tB : TT} {p pos : Pos}
end
variable [EC]
section
variable {R : Type} {F : Fc} {tmp : Tmp} {s : State} {m : Res R} {K : Rs R} {to : TE}
end
end VL

namespace VL
open PySem L2
variable [EC]
/-! x[e] as one of several targets -/
section
variable {R : Type} {F : Fc} {tmp : Tmp} {s : State} {m : Res R} {ti : TE}
end
end VL

namespace VL
open PySem L2
/-! own tuples with an own list of own lists in them -/
variable [EC]
section
variable {F : Fc} {tmp : Tmp} {s : State} {σ : St} {H : Hp} {v : V} {t : T}
end
section
variable {R : Type} {F : Fc} {tmp : Tmp} {s : State} {m : Res R} {K : Rs R} {N : Rn R} {Rt : Rr R} {ta tb te ti : TE} {Kf : PySem.W.Frag}
end
end VL

namespace VL
open PySem L2
variable [EC]
section
variable {R : Type} {F : Fc} {tmp : Tmp} {s : State} {m : Res R} {K : Rs R} {N : Rn R} {Rt : Rr R} {ta tb te ti : TE} {Kf : PySem.W.Frag}
end
end VL

namespace VL
open PySem L2
/-! reading in place: what is read is told of the heap as it stands -/
variable [EC]
section
variable {R : Type} {F : Fc} {tmp : Tmp} {s : State} {m : Res R} {K : Rs R} {N : Rn R} {Rt : Rr R} {ta tb te ti : TE} {Kf : PySem.W.Frag}
end
end VL

namespace VL
open PySem L2
/-! text.split(sep) -/
variable [EC]
section
variable {R : Type} {F : Fc} {tmp : Tmp} {s : State} {m : Res R} {to te : TE} {Kf : PySem.W.Frag} {K : Rs R}
end
end VL

namespace VL
open PySem PySem.Spec PyProof.Rows L2 SeqAt
/-! behind a written number a token is out: statements that replace may stand behind it -/
section
variable {X : Cx} {a b c e : Expr} {rest : List Expr} {sts : List Stmt} {ta tb te : TE} {tA tB tc : TT} {t u : TS} {p pos : Pos}
theorem PWT.of (h : PW X e tA) : PWT X e tA := fun wh pins s σ H Q _ I q => h.run wh pins s σ H Q I q
theorem PWT.pt (h : PWT X e tA) : PTT X e tA := fun pins s σ H Q h0 I q => h _ pins s σ H Q h0 I q
end
/-! a list compared with the empty one, whatever stands in it -/
variable [EC]
end VL

namespace VL
open PySem L2 PySem.SeqAt
/-! a text in a list of things of any kind, dicts too -/
section
variable {A : Around} {s : Shared}
end
variable [EC]
section
variable {X : Cx} {pins : List (Addr × Obj)} {σ : List (Option V)} {H : Hp} {s : Shared}
end
end VL

namespace VL
open PySem PySem.Spec PyProof.Rows L2 PySem.SeqAt
/-! dicts keyed by nested tuples: the heap's side -/
variable [EC]
section
variable {X : Cx} {pins : List (Addr × Obj)} {σ : List (Option V)} {H : Hp} {s : Shared}
mutual
theorem nested_of (I : Inv X pins σ H s) : ∀ (d : D) (k : NestedKey) (x : V) (u : Value), nkD d = some k → Rep H d x → RelV x u → NestedIs s.heap k u
  | .non, k, x, u, e, h, r => by
    cases e; cases (show x = .non from h); cases r; exact .none
  | .bl b, k, x, u, e, h, r => by
    cases e; cases (show x = .bl b from h); cases r; exact .bool rfl
  | .int i, k, x, u, e, h, r => by
    cases e; cases (show x = .int i from h); obtain ⟨t, rfl⟩ := r; exact .int _ _
  | .str y, k, x, u, e, h, r => by
    cases e; cases (show x = .str (mkS y) from h); obtain ⟨t, rfl⟩ := r; exact .text _ _
  | .tup l, k, x, u, e, h, r => by
    obtain ⟨a, vs, its, ea, eu, hl, v1, q1, n1⟩ := at_tup I h r
    subst eu
    simp only [nkD, Option.map_eq_some_iff] at e
    obtain ⟨ks, ek, rfl⟩ := e
    obtain ⟨o, ho, hc, n, hd⟩ := hl
    exact .tup ho hc hd (by simpa using nesteds_of I l ks vs its ek q1 v1)
  | .lst _, _, _, _, e, _, _ => by cases e
  | .dct _ _, _, _, _, e, _, _ => by cases e
  | .opq _, _, _, _, e, _, _ => by cases e
  | .exc _ _, _, _, _, e, _, _ => by cases e
  | .fd _ _ _, _, _, _, e, _, _ => by cases e
  | .fz _, _, _, _, e, _, _ => by cases e
theorem nesteds_of (I : Inv X pins σ H s) : ∀ (l : List D) (ks : List NestedKey) (xs : List V) (us : List Value), nkDs l = some ks → Reps H l xs → Vals xs us → NestedAll s.heap ks us
  | [], ks, xs, us, e, h, r => by
    cases e; cases (show xs = [] from h); cases r; exact .nil
  | d :: l, ks, _, us, e, ⟨x, xs, ex, h, q⟩, r => by
    subst ex
    simp only [nkDs] at e
    cases e1 : nkD d with
    | none => rw [e1] at e; cases e
    | some k =>
      cases e2 : nkDs l with
      | none => rw [e1, e2] at e; cases e
      | some q2 =>
        rw [e1, e2] at e
        cases e
        cases r with
        | cons z1 v1 => exact .cons (nested_of I d k x _ e1 h z1) (nesteds_of I l q2 xs _ e2 q v1)
end
def KsOk (H : Hp) (xs : NX) : Prop := ∀ x ∈ xs, ∃ d, nkD d = some x.1 ∧ x.1.depth ≤ 8 ∧ Rep H d (.ref x.2.1)
/-- at a stands a dict with these keys and values -/
structure NDok (w : World) (H : Hp) (a : Addr) (ep : Nat) (xs : NX) : Prop where
  at_ : H a = some (exN w a ep xs)
  g : NDg a xs
  ks : KsOk H xs
def NKey (H : Hp) (k : NestedKey) (y : V) (b : Addr) : Prop := ∃ d, nkD d = some k ∧ k.depth ≤ 8 ∧ y = .ref b ∧ Rep H d y
theorem NKey.is {k : NestedKey} {y : V} {b : Addr} {u : Value} (I : Inv X pins σ H s) (h : NKey H k y b) (r : RelV y u) : u = .ref b ∧ (nestedKind X.prog X.w).is s.heap k b := by
  obtain ⟨d, e, dp, rfl, rep⟩ := h
  have : u = .ref b := by cases r; rfl
  subst this
  exact ⟨rfl, nested_of I d k _ _ e rep r, dp⟩
theorem NDok.raw (I : Inv X pins σ H s) {a : Addr} {ep : Nat} {xs : NX} (h : H a = some (exN X.w a ep xs)) : ∃ o es, s.heap.get? a = some o ∧ o.ExactDict ∧ o.data = .dict es ep ∧ es.toList = xs.map fun x => (⟨x.1.hash X.w, .ref x.2.1, x.2.2⟩ : DictEntry) := by
  have q : (∃ o es, s.heap.get? a = some o ∧ o.ExactDict ∧ o.data = .dict es ep ∧ es.toList = xs.map fun x => (⟨x.1.hash X.w, .ref x.2.1, x.2.2⟩ : DictEntry)) ∧ _ := I.hok a _ h
  exact q.1
theorem NDok.of (I : Inv X pins σ H s) {a : Addr} {ep : Nat} {xs : NX} (h : NDok X.w H a ep xs) : s.heap.DictOfH (nestedKind X.prog X.w) a xs := by
  obtain ⟨o, es, h1, h2, h3, h4⟩ := NDok.raw I h.at_
  refine ⟨o, es, ep, h1, h2, h3, h4, fun x hx => ?_, h.g.1⟩
  obtain ⟨d, e, dp, rep⟩ := h.ks x hx
  exact ⟨nested_of I d _ _ (.ref x.2.1) e rep rfl, dp⟩
/-! terms -/
end
/-! the walk over the keys -/
section
variable {P : Program} {w : World} {K : PySem.W.Frag} {tg : Expr} {a : Addr} {ep : Nat} {xs : NX}
end
end VL

namespace VL
open PySem L2
/-! dicts keyed by nested tuples: the rules -/
variable [EC]
section
variable {G H : Hp} {d c : D} {kk : NestedKey}
theorem repX_len : ∀ {l : List (D × D)} {xs : NX}, RepX G l xs → l.length = xs.length
  | [], _, h => by cases (show _ = [] from h); rfl
  | (k, d) :: ds, _, ⟨kk, b, u, x, r, e, _, _, _, _, _, q⟩ => by subst e; simp [repX_len q]
end
section
variable {R : Type} {F : Fc} {tmp : Tmp} {s : State} {m : Res R} {K : Rs R} {N : Rn R} {Rt : Rr R} {ta tb te to td ty tv tx : TE} {Kf : PySem.W.Frag}
end
end VL

namespace VL
open PySem L2
/-! isinstance(x, (A, B, ..)), own classes of refusals -/
variable [EC]
theorem ec_cls : ∀ (js : List Nat), Paired ClsV (js.map fun j => V.ref (EC.ec j)) (js.map fun j => Value.ref (EC.ec j))
  | [] => .nil
  | j :: r => .cons (.own _) (ec_cls r)
theorem kit_any {K : PySem.W.Frag} {t : Value} {f : Nat → Bool} : ∀ (js : List Nat), (∀ j ∈ js, PySem.W.kitOne K t (.ref (EC.ec j)) = some (f j)) → PySem.W.kitAny K t (js.map fun j => Value.ref (EC.ec j)) = some (js.any f)
  | [], _ => kitAny_nil
  | j :: r, h => kitAny_cons (h j List.mem_cons_self) (fun hb => by rw [List.any_cons, hb, Bool.false_or]; exact kit_any r fun i hi => h i (List.mem_cons_of_mem _ hi)) fun hb => by rw [List.any_cons, hb, Bool.true_or]
section
variable {R : Type} {F : Fc} {tmp : Tmp} {s : State} {m : Res R} {K : Rs R} {ta : TE} {Kf : PySem.W.Frag}
end
end VL

namespace VL
open PySem L2 PyProof.Rows
/-! x.remove(text) -/
section
variable {X : Cx}
end
variable [EC]
section
variable {R : Type} {F : Fc} {tmp : Tmp} {s : State} {m : Res R} {K : Rs R} {N : Rn R} {Rt : Rr R} {ta te : TE} {Kf : PySem.W.Frag}
end
/-! the parts of an own tuple become own -/
def relab (k n : Nat) : Lab → Option Lab
  | 1 :: j :: r => if j = k then (match r with | i :: r' => if i < n then some (1 :: (k + (n - 1 - i)) :: r') else none | [] => none) else some (1 :: j :: r)
  | l => some l
section
variable {F : Fc} {G H : Hp} {ω : Addr → Option Lab} {tmp : Tmp} {s : State} {σ : L2.St} {v : V}
theorem Hd.split {ts : List T} (h : Hd F G ω ((v, .own (.tt ts)) :: tmp) s σ H) : ∃ a xs ω', v = .ref a ∧ H a = some (.tup xs) ∧ xs.length = ts.length ∧ Hd F G ω' (xs.zip (ts.map TM.own) ++ tmp) s σ H := by
  obtain ⟨a, xs, e, ha, hw, z, r⟩ := h.tm.1
  have hp := h.pop
  let ω' : Addr → Option Lab := fun b => (ω b).bind (relab tmp.length ts.length)
  have back : ∀ b p, ω' b = some p → ∃ p', ω b = some p' := fun b p e => by
    cases e2 : ω b with
    | none => simp [ω', e2] at e
    | some p' => exact ⟨p', rfl⟩
  have low : ∀ j, j < tmp.length → ∀ b x, ω b = some ([1, j] ++ x) → H b = H b ∧ ω' b = some ([1, j] ++ x) := fun j hj b x e => by
    refine ⟨rfl, ?_⟩
    simp only [ω', e, Option.bind_some]
    show relab tmp.length ts.length (1 :: j :: x) = _
    simp only [relab]
    rw [if_neg (by omega)]; rfl
  have xl : ∀ (ts : List T) (xs : List V) (i : Nat) (p : Lab), Owns G H ω p i ts xs → xs.length = ts.length := by
    intro ts
    induction ts with
    | nil => intro xs i p h; cases (show xs = [] from h); rfl
    | cons t r ih => intro xs i p ⟨v, q, e, h1, h2⟩; subst e; simp [ih q _ _ h2]
  refine ⟨a, xs, ω', e, ha, xl _ _ _ _ r, ⟨hp.g0, hp.gH, hp.gn, hp.fr, hp.ex, fun b p e => ?_, hp.len, fun i t e => ?_, ?_, hp.pn⟩⟩
  · obtain ⟨p', e'⟩ := back b p e
    exact hp.wg b p' e'
  · obtain ⟨v', e1, e2⟩ := hp.sl i t e
    refine ⟨v', e1, Own.move (Same.refl G) _ _ t v' (fun b x e => ⟨rfl, ?_⟩) e2⟩
    simp only [ω', e, Option.bind_some]
    rfl
  · have key : ∀ (us : List T) (ys : List V) (i : Nat), i + us.length = ts.length → Owns G H ω [1, tmp.length] i us ys → Tms G H ω' σ (ys.zip (us.map TM.own) ++ tmp) := by
      intro us
      induction us with
      | nil =>
        intro ys i _ h
        cases (show ys = [] from h)
        exact Tms.move (Same.refl G) tmp (fun j b x hj e => low j hj b x e) hp.tm
      | cons t r ih =>
        intro ys i hi ⟨v, q, e, h1, h2⟩
        subst e
        simp only [List.length_cons] at hi
        refine ⟨?_, ih q (i + 1) (by omega) h2⟩
        have hq := xl _ _ _ _ h2
        have hlen : (q.zip (r.map TM.own) ++ tmp).length = tmp.length + (ts.length - 1 - i) := by simp [hq]; omega
        show Own G H ω' [1, (q.zip (r.map TM.own) ++ tmp).length] t v
        rw [hlen]
        refine Own.move (Same.refl G) ([1, tmp.length] ++ [i]) _ t v (fun b x e => ⟨rfl, ?_⟩) h1
        simp only [ω', e, Option.bind_some]
        show relab tmp.length ts.length (1 :: tmp.length :: i :: x) = _
        simp only [relab, if_true]
        rw [if_pos (by omega)]; rfl
    exact key ts xs 0 (by simp) r
end
section
variable {R : Type} {F : Fc} {tmp : Tmp} {s : State} {m : Res R} {K : Rs R} {N : Rn R} {Rt : Rr R} {ta te : TE} {Kf : PySem.W.Frag}
end
end VL

namespace VL
open PySem PySem.Spec PyProof.Rows L2
/-! objects: the machine's side -/
section
variable {X : Cx}
end
/-! fields by names -/
variable [EC]
structure ObF (Kf : PySem.W.Frag) (k : Nat) (f : Str) : Prop where
  c : Cls Kf (EC.ec k)
  n : NoAttr Kf (EC.ec k) f
section
variable {F : Fc} {tmp : Tmp} {s : State} {σ : L2.St} {H : Hp} {v : V} {t : T}
end
section
variable {R : Type} {F : Fc} {tmp : Tmp} {s : State} {m : Res R} {K : Rs R} {N : Rn R} {Rt : Rr R} {ta tb te ti tv ty : TE} {Kf : PySem.W.Frag} {i k n : Nat} {ks : List Str} {ts : List T} {t : T} {f : Str}
end
end VL

namespace VL
open PySem PySem.Spec PyProof.Rows L2 PySem.SeqAt PySem.W
/-! dicts keyed by nested tuples: walked and kept, sorted, len -/
variable [EC]
section
variable {prog : Program} {w : World}
end
section
variable {X : Cx} {pins : List (Addr × Obj)} {σ : List (Option V)} {H : Hp} {s : Shared} {G : Hp}
/-! len -/
/-! sorted -/
end
/-! for k in d, d kept -/
section
variable {R : Type} {F : Fc} {tmp : Tmp} {s : State} {m : Res R}
theorem Holds.pin {σ : L2.St} {H : Hp} {i : Nat} {l : List (D × D)} (h : Holds F tmp s σ H) (hi : s[i]? = some (some (.dc true l))) : ∃ a ep xs, σ[i]? = some (some (.ref a)) ∧ H a = some (exN EC.wd a ep xs) ∧ (a == sysModules) = false ∧ l.length = xs.length ∧ Holds F ((.ref a, .ali i) :: tmp) (s.set i (some (.no ep xs l))) σ H := by
  obtain ⟨G, ω, h⟩ := h
  obtain ⟨v, e1, a, ep, xs, rfl, w, g1, g2, g3⟩ := h.sl i _ hi
  refine ⟨a, ep, xs, e1, g1, g2.2.2, repX_len g3, G, ω, { h with len := by rw [List.length_set]; exact h.len, sl := fun j t hj => ?_, tm := ⟨e1, h.tm⟩ }⟩
  by_cases e : i = j
  · subst e
    rw [List.getElem?_set_self (List.getElem?_eq_some_iff.mp hi).1] at hj
    cases hj
    exact ⟨.ref a, e1, a, rfl, w, g1, g2, g3⟩
  · rw [List.getElem?_set_ne e] at hj
    exact h.sl j t hj
end
end VL

namespace VL
open PySem PySem.Spec PyProof.Rows L2 PySem.SeqAt PySem.W
/-! x.index and x.remove of nested tuples -/
variable [EC]
section
variable {X : Cx}
end
section
variable {R : Type} {F : Fc} {tmp : Tmp} {s : State} {m : Res R} {K : Rs R} {N : Rn R} {Rt : Rr R} {to ta te : TE} {Kf : PySem.W.Frag}
end
end VL

set_option maxHeartbeats 4000000
/-! except C as e: word = f(e): a def of the text, called in a handler, that raises nothing -/
namespace VL
open PySem PySem.Spec PyProof.Rows L2 L2H
/-- what a def promises of an exception of the class cls (without an `at`) that a handler hands to it -/
structure FnE (P : Program) (w : World) (K : PySem.W.Frag) (mg : Str → Option Value) (base : Heap) (k : Nat) (f : Addr) (fd : FuncData) (ps : List Str) (cls : Value) (sp : Addr → Sp) : Prop where
  len : ∀ a vs H Q E, sp a vs H Q E → vs.length = ps.length
  run : ∀ (A : Around) (outer : List Env) (s : Shared) (H : Hp) (args : Args) (us : List Value) (vs : List V) (Q : VK) (E : XK) (p : Addr × Obj), RoomH k A → PinOk outer H s p → Zc cls none p.2 → (∃ vs, p.2.data = .fields vs) → Env0 P w K mg base A outer s H →
    BindsTo s fd args (ps.zip us) → Vals vs us → sp p.1 vs H Q E → codeAny (model P w) A (.call (.ref f) args) (CR CX0 outer P w H s Q E) s
section
variable {P : Program} {w : World} {K : PySem.W.Frag} {mg : Str → Option Value} {base : Heap}
theorem fnE_by {x qual : Str} {st : Stmt} {f : Addr} {fd : FuncData} {N ps : List Str} {k : Nat} {cls : Value} {sp : Addr → Sp} (F : Fun K x qual st f fd) (S : FnScope N ps (defScope st)) (len : ∀ a vs H Q E, sp a vs H Q E → vs.length = ps.length)
    (hbody : ∀ (cdv : Value) (A : Around) (outer : List Env) (s : Shared) (H : Hp) (vs : List V) (Q : VK) (E : XK) (p : Addr × Obj), Zc cls none p.2 → (∃ vs, p.2.data = .fields vs) → RoomH k (A.deeper (envOfC qual (defScope st) s.heap.objs.size f cdv)) → sp p.1 vs H Q E →
      ∃ t, PSs (cxH CX0 P w K mg base N qual (defScope st) f cdv A outer s H E p) (defBody st) t ∧ t { nx := fun _ H' => Q .non H', rt := Q } (L2.start N vs) H) : FnE P w K mg base (k + 1) f fd ps cls sp := by
  obtain ⟨oc, od, kV, doc, pm, an, cdv, ct, osl, rfl, lk, hcd⟩ := F.ex
  refine ⟨len, fun A outer s H args us vs Q E p hr hpin hz hf e0 hb r hsp => ?_⟩
  have hl := len _ _ _ _ _ hsp
  have KX : K.In s.heap := e0.mod.kin.keeps fun b o e => (e0.bs b o e).1
  have lim : s.heap.NoLimit := e0.mod.nolimit.keeps fun b o e => (e0.bs b o e).1
  have hkind : ∀ y ∈ ps.zip us, (defScope st).names.lookup y.1 = some .local ∨ ((defScope st).names.lookup y.1 = some .cell ∧ ((cellsFrom (s.heap.objs.size + 1) (defScope st).names []).lookup y.1).isSome = true) := fun ⟨n, v⟩ hy => by
    rcases S.par n (List.of_mem_zip hy).1 with q | q
    · exact .inl q
    · exact .inr ⟨q, PySem.W.cellsFrom_some _ _ _ (.inl q)⟩
  refine codeAny_call_function hr.depth (KX _ _ lk) rfl S.co S.gen rfl (PySem.W.codeRec_of KX hcd) (hb _ _ _ _ ?_)
  refine wpAny_newFunctionEnv_cells S.kind hkind fun env he s1 x => ?_
  subst he
  refine ⟨lim.keeps x.toInCall.keep, codeAny_func ?_⟩
  obtain ⟨t, ht, hq⟩ := hbody cdv A outer s H vs Q E p hz hf (hr.deeper _) hsp
  have I : Inv (cxH CX0 P w K mg base N qual (defScope st) f cdv A outer s H E p) [] (L2.start N vs) H s1 := inv_startH S hpin e0 hl r x
  refine wpAny_mono (ht.run [] s1 (L2.start N vs) H _ I hq) (fun fl s' hs => ?_) fun e s' hs => hs
  have fin : ∀ {σ' : L2.St} {H' : Hp} {v : V} {u : Value}, Inv (cxH CX0 P w K mg base N qual (defScope st) f cdv A outer s H E p) [] σ' H' s' → RelV v u → Q v H' → CE outer P w H s Q u s' :=
    fun {σ' H' v u} J rv q => ⟨v, H', J.os, J.bare, J.base, J.hok, rv, q⟩
  cases fl with
  | ret u =>
    obtain ⟨v, σ', H', J, rv, q⟩ := hs
    exact fin J rv q
  | next =>
    obtain ⟨σ', H', J, q⟩ := hs
    exact fin (v := V.non) (u := Value.none) J rfl q
  | brk =>
    obtain ⟨_, _, _, q⟩ := hs
    exact False.elim q
  | cont =>
    obtain ⟨_, _, _, q⟩ := hs
    exact False.elim q
end
section
variable {X : Cx} {k : Nat} {f : Addr} {fd : FuncData} {ps : List Str} {cls : Value} {sp : Addr → Sp} {x : Str} {q pos : Pos} {e : Expr} {es : List Expr} {t : TA} {p : Addr × Obj}
theorem pe_callE (F : FnE X.prog X.w X.K X.mg X.base k f fd ps cls sp) (hr : RoomH k X.A) (hp : p ∈ X.pn) (hz : Zc cls none p.2) (hf : ∃ vs, p.2.data = .fields vs) (hg : Gl X x) (hm : X.mg x = some (.ref f)) (hk : PySem.W.keepIn X.K (.ref f) = true) (hb : L2.Binds X.K fd ps [])
    (ha : PA X (e :: es) t) (hdb : (x == ("__debug__" : Str)) = false := by decide) (he : starEach (e :: es) X.env = (false, eval e X.env) :: starEach es X.env := by rfl) (hpl : (backTo pos (starEach es X.env)).any (·.1) = false := by rfl) :
    PE X (.Call (.Name x q) (e :: es) [] pos) (fun σ H Q => t σ H fun vs H1 => sp p.1 vs H1 Q (fun _ _ _ => False)) := by
  refine ⟨fun pins s σ H Q I h => ?_⟩
  refine wpAny_Call_Name_kw (ld_glob I hg hm ?_ hdb)
  refine PySem.W.callWith_K (h₀ := X.base) I.ok.mod.kin hk (thn (ha.run pos pins s σ H _ I h) fun us s1 ⟨vs, H1, I1, r, q⟩ => ⟨I1.kIn, ?_⟩) he hpl
  have hl : us.length = ps.length := by rw [← r.length]; exact F.len _ _ _ _ _ q
  have b := hb s1 us I1.kIn (by rw [List.append_nil]; exact hl)
  rw [List.append_nil] at b
  have P1 := I1.pin p (List.mem_append_left _ hp)
  have hpin : PinOk X.stack H1 s1 p := ⟨P1.1, P1.2.1, fun hm => (List.mem_cons.mp (I1.stkSub p.1 hm)).elim P1.2.2.1 P1.2.2.2.1, P1.2.2.2.2⟩
  refine wpAny_call (codeAny_mono (F.run X.A X.stack s1 H1 ⟨us, []⟩ us vs Q _ p hr hpin hz hf I1.env0 b r q) fun r s' hq => ?_)
  cases r with
  | error e => exact False.elim hq
  | ok fl =>
    cases fl with
    | ret u => exact I1.after hq
    | next => exact False.elim hq
    | brk => exact False.elim hq
    | cont => exact False.elim hq
end
/-! isinstance of an exception that is pinned, not tracked -/
def rIsP (K : PySem.W.Frag) (a C : Addr) : List V → Hp → VK → Prop := fun xs H Q => ∃ (c : V) (u : Value) (b : Bool), xs = [.ref a, c] ∧ ClsV c u ∧ PySem.W.kitOne K (.ref C) u = some b ∧ Q (.bl b) H
def rIsPT (K : PySem.W.Frag) (a C : Addr) : List V → Hp → VK → Prop := fun xs H Q => ∃ (tp : Addr) (cs : List V) (us : List Value) (b : Bool), xs = [.ref a, .ref tp] ∧ H tp = some (.tup cs) ∧ Paired ClsV cs us ∧ PySem.W.kitAny K (.ref C) us = some b ∧ Q (.bl b) H
section
variable {X : Cx} {p : Addr × Obj} {C : Addr}
theorem call_isP {Kf : PySem.W.Frag} (hK : X.K = Kf) (hp : p ∈ X.pn) (hz : Zc (.ref C) none p.2) (hf : ∃ vs, p.2.data = .fields vs) (hC : XOne Kf C) : CallR X (.builtin "isinstance") (rIsP Kf p.1 C) := by
  subst hK
  intro pins s σ H xs us Q I r h
  obtain ⟨c, u, b, rfl, k, e, q⟩ := h
  obtain ⟨u1, u2, rfl, r1, r2⟩ := L2.vals2 r
  have e2 := k.eq r2
  subst e2
  cases (show u1 = Value.ref p.1 from r1)
  obtain ⟨vs, hd⟩ := hf
  have nc : PySem.W.notCls p.2 = true := by unfold PySem.W.notCls; rw [hd] <;> rfl
  have P1 := I.pin p (List.mem_append_left _ hp)
  have J : PySem.W.InstAt s.heap p.1 p.2 C none := ⟨P1.1, hz.1, nc, by rw [hz.2]; trivial⟩
  exact PySem.W.kia_one (PySem.W.kitx_exc hC.cl hC.ga hC.gg hC.su hC.ha hC.hn hC.ht hC.hm) I.kIn J e (fun z => by cases z) fun tk => ⟨.bl b, H, I.tok tk, rfl, q⟩
theorem call_isPT {Kf : PySem.W.Frag} (hK : X.K = Kf) (hp : p ∈ X.pn) (hz : Zc (.ref C) none p.2) (hf : ∃ vs, p.2.data = .fields vs) (hC : XOne Kf C) : CallR X (.builtin "isinstance") (rIsPT Kf p.1 C) := by
  subst hK
  intro pins s σ H xs us Q I r h
  obtain ⟨tp, cs, ws, b, rfl, hT, k, e, q⟩ := h
  obtain ⟨u1, u2, rfl, r1, r2⟩ := L2.vals2 r
  cases (show u2 = Value.ref tp from r2)
  cases (show u1 = Value.ref p.1 from r1)
  obtain ⟨_, its, rv, o, h1, h2, n, h3⟩ := (show ObjOk X.prog X.w H s.heap tp (.tup cs) from I.hok tp _ hT)
  have e3 := ClsV.all k rv
  subst e3
  obtain ⟨oc, od, dt, sl⟩ := o
  simp only at h2 h3
  subst h2 h3
  obtain ⟨vs, hd⟩ := hf
  have nc : PySem.W.notCls p.2 = true := by unfold PySem.W.notCls; rw [hd] <;> rfl
  have P1 := I.pin p (List.mem_append_left _ hp)
  have J : PySem.W.InstAt s.heap p.1 p.2 C none := ⟨P1.1, hz.1, nc, by rw [hz.2]; trivial⟩
  exact PySem.W.kia_tup (PySem.W.kitx_exc hC.cl hC.ga hC.gg hC.su hC.ha hC.hn hC.ht hC.hm) I.kIn J h1 e (fun z => by cases z) fun tk => ⟨.bl b, H, I.tok tk, rfl, q⟩
end
/-! the statement -/
/-- what the handler does with an exception of class C, without an `at`: slot j is the word w -/
def tsW (C : Addr) (i j : Nat) (w : Str) : Addr → Value → Option Addr → TS := fun a cls d D σ H => cls = .ref C ∧ d = none ∧ i < σ.length ∧ σ[i]? = some (some (.ref a)) ∧ ∀ H1 : Hp, (∀ b o, H b = some o → H1 b = some o) → D.nx (σ.set j (some (.str w))) H1
def tTryW (K : PySem.W.Frag) (c : Value) (i j : Nat) (C : Addr) (w : Str) (tb : WX → TS) : TS := fun D σ H => tb (wAs K c i (tsW C i j w) (fun _ _ _ _ => False) D) D σ H
section
variable {X : Cx} {x n y g : Str} {c : Value} {i j k : Nat} {f C : Addr} {fd : FuncData} {w : Str} {p0 : Str} {body : List Stmt} {np np2 yp gp cp apos pos pos' : Pos} {tb : WX → TS}
theorem ps_tryW {Kf : PySem.W.Frag} (hK : X.K = Kf) (hs : X.stack = X.env :: X.outer) (hf : X.env.frame = some X.env.locals) (hN : X.N.Nodup) (hi : X.N[i]? = some n) (hj : X.N[j]? = some y) (hln : X.env.kindOf n = some .local) (hvn : Vis X.env.scope n) (hly : Loc X.env.scope y) (hc : Names X x c)
    (hfy : X.fn y = true ∨ X.env.scope.names.lookup y = some .local)
    (F : FnE X.prog X.w X.K X.mg X.base k f fd [p0] (.ref C) (fun a vs H Q _ => vs = [.ref a] ∧ ∀ H1 : Hp, (∀ b o, H b = some o → H1 b = some o) → Q (.str w) H1)) (hr : Room k X.A) (hg : ∀ a pn, Gl (X.suite a pn) g) (hm : X.mg g = some (.ref f)) (hk : PySem.W.keepIn X.K (.ref f) = true) (hbd : L2.Binds X.K fd [p0] [])
    (hn1 : (n == ("__debug__" : Str)) = false) (hn2 : (n == ("__classdict__" : Str)) = false) (hdb : (g == ("__debug__" : Str)) = false)
    (hse : ∀ (a : Addr) (pn : List (Addr × Obj)), starEach [Expr.Name n np2] (X.suite a pn).env = (false, eval (.Name n np2) (X.suite a pn).env) :: starEach [] (X.suite a pn).env)
    (hsw : ∀ (a : Addr) (pn : List (Addr × Obj)), swapsWith (.Call (.Name g gp) [.Name n np2] [] cp) (some (.Name y yp)) apos.line (X.suite a pn).env = pure false)
    (hb : ∀ (W : WX) (pn : List (Addr × Obj)) (xe : Value → Shared → Prop), Takes (X.tr pn xe) W → PassesOwn (model X.prog X.w) X.A X.env xe → PSs (X.tr pn xe) body (tb W)) :
    PS X (.Try body [.ExceptHandler (some (.Name x np)) (some n) [.Assign [.Name y yp] (.Call (.Name g gp) [.Name n np2] [] cp) apos] pos'] [] [] pos) (tTryW Kf c i j C w tb) := by
  subst hK
  refine ps_try_as hs hf hN hi hln hc (Wout := fun _ _ _ _ => False) (fun u s' z => ?_) hb (fun a oe cls d pn hz hfd => ?_)
  · obtain ⟨_, _, _, _, _, _, _, _, _, _, _, _, _, _, _, _, z⟩ := z
    exact z.elim
  · by_cases hcd : cls = .ref C ∧ d = none
    · obtain ⟨rfl, rfl⟩ := hcd
      have h1 := pss_one (ps_set (X := X.suite a ((a, oe) :: pn)) (pos := apos) (pos' := yp) hN hj hly (pe_callE (X := X.suite a ((a, oe) :: pn)) (pos := cp) (q := gp) (p := (a, oe)) F (⟨hr.dp, hr.un⟩ : RoomH k (X.suite a ((a, oe) :: pn)).A) List.mem_cons_self hz hfd (hg a _) hm hk hbd (pa_cons (pe_var (pos := np2) hi hvn hn1 hn2) pa_nil (hse a _)) hdb (hse a _) rfl) (hsw a _) hfy)
      refine ⟨fun pins s σ H D I h => h1.run pins s σ H D I ?_⟩
      obtain ⟨_, _, h3, h4, h5⟩ := h
      exact ⟨.ref a, h4, rfl, h5⟩
    · exact ⟨fun pins s σ H D I h => absurd ⟨h.1, h.2.1⟩ hcd⟩
end
def tryWM {Z : Type} (kx : Nat) (mb : Res Z) (h : Z) : Res Z := match mb with
  | .ok z => .ok z
  | .err e => if (e.k == kx && e.a.isNone) = true then .ok h else .fail
  | .fail => .fail
variable [EC]
theorem try_coreW {R Z : Type} {F : Fc} {s : State} {m : Res R} {N : Rn R} {Kf : PySem.W.Frag} {c : Value} {i j : Nat} {l : List Nat} (ps : List Nat) (kx : Nat) (S : Z → State) (mb : Res Z) (hz : Z) (k : Z → Res R) (em : m = rb (tryWM kx mb hz) k)
    (hij : i ≠ j) (hi : i < s.length) (hj : j < s.length) (hec : F.ec = EC.ec) (hpv : ∀ k, F.pv k = none) (hok : PySem.W.exmOne Kf (.ref (EC.ec kx)) c = some true)
    (hs : Sub ((keepP ps 0 s).set j (some (.f (.str l)))) (S hz)) (hi2 : (keepP ps 0 s)[i]? = some none) (hn : ∀ z, N (S z) (k z))
    {σ : L2.St} {H : Hp} {De : Ends} (hh : Holds F [] s σ H) (nf : m ≠ .fail) (nx : ∀ s' σ' H', N s' m → Holds F [] s' σ' H' → De.nx σ' H') :
    ∃ F' : Fc, F'.ec = EC.ec ∧ F'.K = F.K ∧ (∀ k, k ∉ ps → F'.pv k = none) ∧ (∀ σ1 : L2.St, σ1.length = s.length → (∀ k v, F'.pv k = some v → σ1[k]? = some (some v)) → ∀ c2 d H', F'.E c2 d H' → wAs Kf c i (tsW (EC.ec kx) i j (mkS l)) (fun _ _ _ _ => False) De c2 d σ1 H') ∧
      Holds F' [] s σ H ∧ mb ≠ .fail ∧ EOk F' mb ∧ ∀ tmp s' σ' H', Holds F' tmp s' σ' H' → Holds F tmp s' σ' H' := by
  obtain ⟨G, ω, h⟩ := hh
  have nfb : tryWM kx mb hz ≠ .fail := fun z => nf (by rw [em, z]; rfl)
  let E' : XK := fun cls d H' => ∀ σ1 : L2.St, σ1.length = s.length → (∀ k ∈ ps, ∀ v, σ[k]? = some (some v) → σ1[k]? = some (some v)) → wAs Kf c i (tsW (EC.ec kx) i j (mkS l)) (fun _ _ _ _ => False) De cls d σ1 H'
  let F' : Fc := { K := F.K, G0 := G, H0 := H, w0 := ω, E := E', ec := F.ec, pv := fun k => if k ∈ ps then (match σ[k]? with | some x => x | none => none) else none }
  have pvE : ∀ k v, F'.pv k = some v ↔ k ∈ ps ∧ σ[k]? = some (some v) := fun k v => by
    show (if k ∈ ps then (match σ[k]? with | some x => x | none => none) else none) = some v ↔ _
    by_cases hk : k ∈ ps
    · rw [if_pos hk]
      cases e : σ[k]? with
      | none => simp [hk]
      | some x => simp [hk]
    · rw [if_neg hk]; simp [hk]
  have own0 : ∀ {a : Addr} {o : HO}, F.H0 a = some o → F.w0 a = none → H a = some o ∧ ω a = none := fun {a o} e w => by
    refine ⟨h.fr a o e w, ?_⟩
    cases q : ω a with
    | none => rfl
    | some p =>
      rcases (h.wg a p q).2.2 with z | z
      · rw [e] at z; cases z
      · rw [w] at z; cases z
  have hF' : Holds F' [] s σ H := ⟨G, ω, Same.refl G, h.gH, fun a o e => .inl e, fun a o e _ => e, fun a o e => ⟨o, e⟩, fun a p e => ⟨(h.wg a p e).1, (h.wg a p e).2.1, .inr (by show (ω a).isSome = true; rw [e]; rfl)⟩, h.len, h.sl, trivial, fun k v e => ((pvE k v).mp e).2⟩
  refine ⟨F', hec, rfl, fun k hk => by show (if k ∈ ps then _ else none) = none; rw [if_neg hk], fun σ1 hl hp c2 d H' z => ?_, hF', fun z => nfb (by rw [z]; rfl), fun e he od H' ep => ?_, fun tmp s' σ' H' hk => ?_⟩
  · exact z σ1 hl fun k hk v e => hp k v ((pvE k v).mpr ⟨hk, e⟩)
  · -- an exception
    show E' (.ref (F.ec e.k)) od H'
    intro σ1 hl hσ
    have ek : (e.k == kx && e.a.isNone) = true := by
      refine Decidable.byContradiction fun z => nfb ?_
      rw [he]
      show (if (e.k == kx && e.a.isNone) = true then _ else _) = _
      rw [if_neg z]
    have ek2 := ek
    rw [Bool.and_eq_true] at ek2
    have ek' : e.k = kx := by simpa using ek2.1
    have ea : e.a = none := by simpa using ek2.2
    obtain ⟨G', g1, g2, g3, g4, g5, g6⟩ := ep
    have g1 : Same G G' := g1
    rw [ea] at g6
    have e5 : od = none := g6
    subst e5
    refine ⟨true, by rw [hec, ek']; exact hok, fun _ x hx => ?_, fun z => by cases z⟩
    refine ⟨by rw [hec, ek'], rfl, by rw [List.length_set, hl]; exact hi, by rw [List.getElem?_set_self (by rw [hl]; exact hi)], fun H1 up => ?_⟩
    have base : Hd F G' (fun _ => none) [] (keepP ps 0 s) σ1 H1 := by
      refine ⟨h.g0.trans g1, fun b o q => up b o (g2 b o q), fun a o q => ?_, fun a o q w => ?_, fun a o q => ?_, fun a p q => (by cases q), (by rw [keepP_len]; exact hl), fun k t q => ?_, trivial, fun k v q => (by rw [hpv] at q; cases q)⟩
      · rcases g3 a o q with z | z | z
        · exact h.gn a o z
        · exact .inr (.inl (h.new z))
        · obtain ⟨p, hp⟩ := Option.isSome_iff_exists.mp (show (ω a).isSome = true from z)
          exact .inr (h.wg a p hp).2.2
      · obtain ⟨z1, z2⟩ := own0 q w
        exact up _ _ (g4 a o z1 z2)
      · obtain ⟨o', z⟩ := h.ex a o q
        obtain ⟨o2, z2⟩ := g5 a o' z
        exact ⟨o2, up _ _ z2⟩
      · obtain ⟨d, e1, e2, e3⟩ := keepP_get ps 0 s k t q
        subst e1
        obtain ⟨v, v1, v2⟩ := h.sl k (.f d) e2
        rw [Nat.zero_add] at e3
        exact ⟨v, hσ k e3 v v1, Rep.mono g1 _ _ v2⟩
    have xr : Rep G' (.str l) (.str (mkS l)) := rfl
    have b3 : Holds F [] ((keepP ps 0 s).set j (some (.f (.str l)))) (σ1.set j (some (.str (mkS l)))) H1 :=
      Holds.store (t := .f (.str l)) (v := .str (mkS l)) ⟨_, _, base.pushF xr⟩ (by rw [keepP_len]; exact hj) rfl (hpv j)
    have b4 := Holds.cleared b3 (i := i) (by rw [List.getElem?_set_ne (fun z => hij z.symm)]; exact hi2) rfl (hpv i)
    have eσ : ((σ1.set i (some (.ref x))).set j (some (.str (mkS l)))).set i none = (σ1.set j (some (V.str (mkS l)))).set i none := by
      apply List.ext_getElem?
      intro q
      by_cases hq : i = q
      · subst hq
        simp only [List.getElem?_set, List.length_set, if_true]
      · simp only [List.getElem?_set, List.length_set, if_neg hq]
    show De.nx (((σ1.set i (some (.ref x))).set j (some (.str (mkS l)))).set i none) H1
    rw [eσ]
    refine nx _ _ _ ?_ (b4.sub hs)
    rw [em, he]
    show N _ (rb (if (e.k == kx && e.a.isNone) = true then .ok hz else .fail) k)
    rw [if_pos ek]
    exact hn _
  · obtain ⟨G', ω', h2⟩ := hk
    exact ⟨G', ω', h.g0.trans h2.g0, h2.gH, fun a o q => by
      rcases h2.gn a o q with z | z | z
      · exact h.gn a o z
      · exact .inr (.inl (h.new z))
      · obtain ⟨p, hp⟩ := Option.isSome_iff_exists.mp (show (ω a).isSome = true from z)
        exact .inr (h.wg a p hp).2.2, fun a o q w => by
      obtain ⟨z1, z2⟩ := own0 q w
      exact h2.fr a o z1 z2, fun a o q => by
      obtain ⟨o', z⟩ := h.ex a o q
      exact h2.ex a o' z, fun a p q => by
      obtain ⟨w1, w2, w3⟩ := h2.wg a p q
      refine ⟨w1, w2, ?_⟩
      rcases w3 with z | z
      · exact .inl (h.new z)
      · obtain ⟨p', hp⟩ := Option.isSome_iff_exists.mp (show (ω a).isSome = true from z)
        exact (h.wg a p' hp).2.2, h2.len, h2.sl, h2.tm, fun k v q => by rw [hpv] at q; cases q⟩
theorem rs_tryW {R Z : Type} {F : Fc} {s : State} {m : Res R} {N : Rn R} {Rt : Rr R} {Kf : PySem.W.Frag} {c : Value} {i j : Nat} {l : List Nat} {tb : WX → TS} (ps : List Nat) (kx : Nat) (S : Z → State) (mb : Res Z) (hz : Z) (k : Z → Res R) (em : m = rb (tryWM kx mb hz) k)
    (hij : i ≠ j) (hi : i < s.length) (hj : j < s.length) (hec : F.ec = EC.ec) (hpv : ∀ k, F.pv k = none) (hok : PySem.W.exmOne Kf (.ref (EC.ec kx)) c = some true)
    (hs : Sub ((keepP ps 0 s).set j (some (.f (.str l)))) (S hz)) (hi2 : (keepP ps 0 s)[i]? = some none)
    (hb : ∀ (F' : Fc) (W : WX), F'.ec = EC.ec → F'.K = F.K → (∀ k, k ∉ ps → F'.pv k = none) → (∀ σ : L2.St, σ.length = s.length → (∀ k v, F'.pv k = some v → σ[k]? = some (some v)) → ∀ c d H', F'.E c d H' → W c d σ H') →
      RS F' [] s mb (tb W) (fun s' m' => ∃ z, m' = .ok z ∧ Sub s' (S z)) (fun _ _ _ => False))
    (hn : ∀ z, N (S z) (k z)) : RS F [] s m (tTryW Kf c i j (EC.ec kx) (mkS l) tb) N Rt := fun σ H De hh nf eo nx rt => by
  obtain ⟨F', a1, a2, a3, a4, a5, a6, a7, a8⟩ := try_coreW (l := l) ps kx S mb hz k em hij hi hj hec hpv hok hs hi2 hn hh nf nx
  refine hb F' _ a1 a2 a3 a4 σ H De a5 a6 a7 (fun s' σ' H' ⟨z, ez, sb⟩ h1 => ?_) (fun _ _ _ _ _ z => z.elim)
  refine nx _ _ _ ?_ ((a8 _ _ _ _ h1).sub sb)
  rw [em, ez]
  exact hn z
end VL

set_option maxHeartbeats 0
namespace SSN
end SSN
namespace W
open PySem PySem.Spec PyProof.Rows L2 VL
def topS (i : Nat) : Stmt := PySem.Challenge.pw_anydelay_k15_standings_that_are_none.main.body.getD i (.Pass ⟨0, 0, 0, 0⟩)
abbrev q_a : List Nat := [97]
theorem e_q_a : (PySem.Str.ofString "a") = mkS q_a := by decide +kernel
abbrev q_b : List Nat := [98]
theorem e_q_b : (PySem.Str.ofString "b") = mkS q_b := by decide +kernel
abbrev q_c : List Nat := [99]
theorem e_q_c : (PySem.Str.ofString "c") = mkS q_c := by decide +kernel
abbrev q_ab : List Nat := [97, 98]
theorem e_q_ab : (PySem.Str.ofString "ab") = mkS q_ab := by decide +kernel
abbrev q_ba : List Nat := [98, 97]
theorem e_q_ba : (PySem.Str.ofString "ba") = mkS q_ba := by decide +kernel
abbrev q_hold : List Nat := [104, 111, 108, 100]
theorem e_q_hold : (PySem.Str.ofString "hold") = mkS q_hold := by decide +kernel
abbrev q_set : List Nat := [115, 101, 116]
theorem e_q_set : (PySem.Str.ofString "set") = mkS q_set := by decide +kernel
abbrev q_x : List Nat := [120]
theorem e_q_x : (PySem.Str.ofString "x") = mkS q_x := by decide +kernel
abbrev q_zzzzzzzz : List Nat := [122, 122, 122, 122, 122, 122, 122, 122]
theorem e_q_zzzzzzzz : (PySem.Str.ofString "zzzzzzzz") = mkS q_zzzzzzzz := by decide +kernel
abbrev q_aa : List Nat := [97, 97]
theorem e_q_aa : (PySem.Str.ofString "aa") = mkS q_aa := by decide +kernel
abbrev q_wire : List Nat := [119, 105, 114, 101]
theorem e_q_wire : (PySem.Str.ofString "wire") = mkS q_wire := by decide +kernel
abbrev q_not : List Nat := [110, 111, 116]
theorem e_q_not : (PySem.Str.ofString "not") = mkS q_not := by decide +kernel
abbrev q_and : List Nat := [97, 110, 100]
theorem e_q_and : (PySem.Str.ofString "and") = mkS q_and := by decide +kernel
abbrev q_or : List Nat := [111, 114]
theorem e_q_or : (PySem.Str.ofString "or") = mkS q_or := by decide +kernel
abbrev q_q : List Nat := [113]
theorem e_q_q : (PySem.Str.ofString "q") = mkS q_q := by decide +kernel
abbrev qx_ : List Nat := []
theorem e_qx_ : (PySem.Str.ofString "") = mkS qx_ := by decide +kernel
abbrev q_01 : List Nat := [48, 49]
theorem e_q_01 : (PySem.Str.ofString "01") = mkS q_01 := by decide +kernel
abbrev qx_32202d614f7e2e3e78 : List Nat := [50, 32, 45, 97, 79, 126, 46, 62, 120]
theorem e_qx_32202d614f7e2e3e78 : (PySem.Str.ofString "2 -aO~.>x") = mkS qx_32202d614f7e2e3e78 := by decide +kernel
abbrev q_0 : List Nat := [48]
theorem e_q_0 : (PySem.Str.ofString "0") = mkS q_0 := by decide +kernel
abbrev q_1 : List Nat := [49]
theorem e_q_1 : (PySem.Str.ofString "1") = mkS q_1 := by decide +kernel
abbrev q_10 : List Nat := [49, 48]
theorem e_q_10 : (PySem.Str.ofString "10") = mkS q_10 := by decide +kernel
abbrev q_standing : List Nat := [115, 116, 97, 110, 100, 105, 110, 103]
theorem e_q_standing : (PySem.Str.ofString "standing") = mkS q_standing := by decide +kernel
def m__law_store (x_cell : D) : Res (List D) :=
  rb (ob (powD (.int 10) (.int 18)) fun t5 => ob (geD x_cell t5) fun t4 => if t4 = true then .ok x_cell else .ok (.int 0) : Res D) fun z3 => ob (modD x_cell (.int 2147483629)) fun t6 => .ok ([z3, t6, (.int 1)])
abbrev s__law_store : Stmt := topS 29
theorem sc__law_store : FnScope ["cell", "great"] ["cell"] (defScope s__law_store) := ⟨rfl, rfl, rfl, by decide +kernel, rfl, by decide +kernel, by decide +kernel⟩
def m__law_take (x_store : List D) (x_many : D) : Res (D × (List D)) :=
  (ob (ixD (.lst x_store) (.int 0)) fun t2 => ob (gtD t2 (.int 0)) fun t1 => if t1 = true then ob (ixD (.lst x_store) (.int 0)) fun t4 => ob (modD t4 x_many) fun t3 => ob (ixD (.lst x_store) (.int 0)) fun t7 => ob (fdivD t7 x_many) fun t6 => ob (setL x_store (.int 0) t6) fun t5 => .ok (t3, t5) else ob (ixD (.lst x_store) (.int 2)) fun t10 => ob (addD t10 (.int 1)) fun t9 => ob (setL x_store (.int 2) t9) fun t8 => ob (ixD (.lst t8) (.int 1)) fun t14 => ob (ixD (.lst t8) (.int 2)) fun t16 => ob (mulD (.int 7919) t16) fun t15 => ob (addD t14 t15) fun t13 => ob (mulD t13 (.int 48271)) fun t12 => ob (modD t12 (.int 2147483647)) fun t11 => ob (mulD t11 t11) fun t18 => ob (modD t18 (.int 2147483629)) fun t17 => ob (ixD (.lst t8) (.int 2)) fun t23 => ob (mulD (.int 40692) t23) fun t22 => ob (addD t17 t22) fun t21 => ob (mulD t21 (.int 69621)) fun t20 => ob (modD t20 (.int 2147483587)) fun t19 => ob (fdivD t19 (.int 8)) fun t25 => ob (modD t25 x_many) fun t24 => .ok (t24, t8))
abbrev s__law_take : Stmt := topS 30
theorem sc__law_take : FnScope ["store", "many", "one", "told"] ["store", "many"] (defScope s__law_take) := ⟨rfl, rfl, rfl, by decide +kernel, rfl, by decide +kernel, by decide +kernel⟩
def m__law_names (x_store : List D) (x_many : D) : Res ((List D) × (List D)) :=
  ob (rngD (.int 0) x_many) fun ds4 => rb (fmS ds4 ([(.str q_a), (.str q_b), (.str q_c), (.str q_ab), (.str q_ba), (.str q_hold), (.str q_set), (.str q_x), (.str q_zzzzzzzz), (.str q_aa), (.str q_wire), (.str q_not), (.str q_and), (.str q_or), (.str q_q)], x_store) fun z2 d1 => ob (lenD (.lst z2.1)) fun t7 => rb (m__law_take z2.2 t7) fun r6 => ob (popAtL z2.1 r6.1) fun t5 => .ok (some t5.1, (t5.2, r6.2))) fun p3 => .ok (p3.1, p3.2.2)
abbrev s__law_names : Stmt := topS 31
theorem sc__law_names : FnScope ["store", "many", "spare", "k"] ["store", "many"] (defScope s__law_names) := ⟨rfl, rfl, rfl, by decide +kernel, rfl, by decide +kernel, by decide +kernel⟩
theorem blk__law_names_0 : BlkOk ["store", "many", "spare", "k"] (defScope s__law_names) { kind := PySem.ScopeKind.function, names := [ (PySem.Str.ofString ".0", PySem.NameKind.local), (PySem.Str.ofString "k", PySem.NameKind.local), (PySem.Str.ofString "_law_take", PySem.NameKind.globalImplicit), (PySem.Str.ofString "len", PySem.NameKind.globalImplicit), (PySem.Str.ofString "spare", PySem.NameKind.free), (PySem.Str.ofString "store", PySem.NameKind.free)], isGenerator := false, isCoroutine := false, more := [] : PySem.Scope } [("k", 3)] := ⟨rfl, by decide +kernel, by decide +kernel, by decide +kernel, by decide +kernel⟩
def m__law_rule : Nat → (List D) → D → D → Res (D × (List D))
  | 0, _, _, _ => .fail
  | n_ + 1, x_store, x_names, x_deep => rb (m__law_take x_store (.int 8)) fun r1 => (ob (ltD x_deep (.int 2)) fun t3 => rb (if t3 = true then .ok (true, ()) else ob (ltD r1.1 (.int 2)) fun t4 => .ok (t4, ()) : Res (Bool × Unit)) fun p2 => if p2.1 = true then ob (lenD x_names) fun t7 => rb (m__law_take r1.2 t7) fun r6 => ob (ixD x_names r6.1) fun t5 => .ok ((.tup [(.str q_wire), t5]), r6.2) else ob (subD x_deep (.int 1)) fun t9 => rb (m__law_rule n_ r1.2 x_names t9) fun r8 => (ob (ltD r1.1 (.int 4)) fun t10 => if t10 = true then .ok ((.tup [(.str q_not), r8.1]), r8.2) else ob (modD r1.1 (.int 2)) fun t12 => ob (ixD (.lst [(.str q_and), (.str q_or)]) t12) fun t11 => ob (subD x_deep (.int 1)) fun t15 => ob (gtD x_deep (.int 5)) fun t17 => ob (intD (.bl t17)) fun t16 => ob (ixD (.lst [t15, (.int 1)]) t16) fun t14 => rb (m__law_rule n_ r8.2 x_names t14) fun r13 => .ok ((.tup [t11, r8.1, r13.1]), r13.2)))
abbrev s__law_rule : Stmt := topS 32
theorem sc__law_rule : FnScope ["store", "names", "deep", "kind", "one"] ["store", "names", "deep"] (defScope s__law_rule) := ⟨rfl, rfl, rfl, by decide +kernel, rfl, by decide +kernel, by decide +kernel⟩
def m__law_holder (x_one : D) (x_other : D) (x_own : D) : Res D :=
  .ok (.tup [(.str q_or), (.tup [(.str q_and), x_one, x_other]), (.tup [(.str q_and), x_own, (.tup [(.str q_or), x_one, x_other])])])
abbrev s__law_holder : Stmt := topS 33
theorem sc__law_holder : FnScope ["one", "other", "own"] ["one", "other", "own"] (defScope s__law_holder) := ⟨rfl, rfl, rfl, by decide +kernel, rfl, by decide +kernel, by decide +kernel⟩
def m__law_known_rule (x_kind : D) (x_names : D) (x_at : D) (x_ins : D) : Res D :=
  ob (asI x_ins) fun t2 => ob (slL (some t2) none x_names) fun t1 => ob (ixD (.lst t1) x_at) fun t3 => ob (subD x_at (.int 1)) fun t5 => ob (ixD (.lst t1) t5) fun t4 => ob (lenD x_names) fun t8 => ob (modD x_at t8) fun t7 => ob (ixD x_names t7) fun t6 => ob (addD x_at (.int 1)) fun t11 => ob (lenD (.lst t1)) fun t12 => ob (modD t11 t12) fun t10 => ob (ixD (.lst t1) t10) fun t9 => (ob (eqD x_kind (.int 0)) fun t13 => if t13 = true then .ok (.tup [(.str q_not), (.tup [(.str q_wire), t4])]) else (ob (eqD x_kind (.int 1)) fun t14 => if t14 = true then .ok (.tup [(.str q_not), (.tup [(.str q_or), (.tup [(.str q_wire), t4]), (.tup [(.str q_wire), t6])])]) else (ob (eqD x_kind (.int 2)) fun t15 => if t15 = true then rb (m__law_holder (.tup [(.str q_wire), t6]) (.tup [(.str q_wire), t4]) (.tup [(.str q_wire), t3])) fun r16 => .ok r16 else rb (m__law_holder (.tup [(.str q_wire), t4]) (.tup [(.str q_not), (.tup [(.str q_wire), t9])]) (.tup [(.str q_wire), t3])) fun r17 => .ok r17)))
abbrev s__law_known_rule : Stmt := topS 34
theorem sc__law_known_rule : FnScope ["kind", "names", "at", "ins", "gates", "own", "ahead", "one", "after"] ["kind", "names", "at", "ins"] (defScope s__law_known_rule) := ⟨rfl, rfl, rfl, by decide +kernel, rfl, by decide +kernel, by decide +kernel⟩
def m__law_net (x_store : List D) (x_most : D) : Res (D × (List D)) :=
  rb (m__law_take x_store (.int 5)) fun r1 => rb (m__law_take r1.2 x_most) fun r3 => ob (addD (.int 1) r3.1) fun t2 => ob (addD r1.1 t2) fun t5 => rb (m__law_names r3.2 t5) fun r4 => rb (m__law_take r4.2 (.int 12)) fun r6 => rb (m__law_take r6.2 (.int 8)) fun r8 => ob (ixD (.lst [(.int 1), (.int 2), (.int 3), (.int 4), (.int 5), (.int 6), (.int 6), (.int 10)]) r8.1) fun t7 => rb (ob (gtD t2 (.int 6)) fun t12 => if t12 = true then ob (minD t7 (.int 3)) fun t13 => .ok t13 else .ok t7 : Res D) fun z11 => ob (rngD (.int 0) t2) fun ds16 => rb (forN (Z := ((List D) × (List D))) ds16 (r8.2, []) fun z15 d14 => rb (m__law_rule 24 z15.1 (.lst r4.1) z11) fun r17 => rb (ob (ltD r6.1 (.int 4)) fun t25 => rb (if t25 = true then rb (m__law_take r17.2 (.int 8)) fun r27 => ob (gtD r27.1 (.int 0)) fun t26 => .ok (t26, r27.2) else .ok (false, r17.2) : Res (Bool × (List D))) fun p24 => if p24.1 = true then rb (m__law_known_rule r6.1 (.lst r4.1) d14 r1.1) fun r28 => .ok (r28, p24.2) else .ok (r17.1, p24.2) : Res (D × (List D))) fun z23 => ob (addD r1.1 d14) fun t31 => ob (ixD (.lst r4.1) t31) fun t30 => ob (apL z15.2 (.tup [t30, z23.1])) fun t29 => .ok (z23.2, t29)) fun z15 => ob (asI r1.1) fun t33 => ob (slL none (some t33) (.lst r4.1)) fun t32 => .ok ((.tup [(.lst t32), (.lst z15.2)]), z15.1)
abbrev s__law_net : Stmt := topS 35
theorem sc__law_net : FnScope ["store", "most", "ins", "many", "names", "kind", "deep", "gates", "at", "rule"] ["store", "most"] (defScope s__law_net) := ⟨rfl, rfl, rfl, by decide +kernel, rfl, by decide +kernel, by decide +kernel⟩
def m__law_standing (x_store : List D) (x_net : D) : Res (D × (List D)) :=
  ob (asStr (.str qx_)) fun t2 => ob (ixD x_net (.int 0)) fun t9 => ob (lenD t9) fun t8 => ob (ixD x_net (.int 1)) fun t11 => ob (lenD t11) fun t10 => ob (addD t8 t10) fun t7 => ob (rngD (.int 0) t7) fun ds6 => rb (fmS ds6 x_store fun z4 d3 => rb (m__law_take z4 (.int 2)) fun r13 => ob (ixD (.str q_01) r13.1) fun t12 => .ok (some t12, r13.2)) fun p5 => ob (joinD (.str qx_) (.lst p5.1)) fun t1 => .ok (t1, p5.2)
abbrev s__law_standing : Stmt := topS 36
theorem sc__law_standing : FnScope ["store", "net", "k"] ["store", "net"] (defScope s__law_standing) := ⟨rfl, rfl, rfl, by decide +kernel, rfl, by decide +kernel, by decide +kernel⟩
theorem blk__law_standing_0 : BlkOk ["store", "net", "k"] (defScope s__law_standing) { kind := PySem.ScopeKind.function, names := [ (PySem.Str.ofString ".0", PySem.NameKind.local), (PySem.Str.ofString "k", PySem.NameKind.local), (PySem.Str.ofString "_law_take", PySem.NameKind.globalImplicit), (PySem.Str.ofString "store", PySem.NameKind.free)], isGenerator := false, isCoroutine := false, more := [] : PySem.Scope } [("k", 2)] := ⟨rfl, by decide +kernel, by decide +kernel, by decide +kernel, by decide +kernel⟩
def m__law_no_standing (x_store : List D) (x_standing : D) : Res (D × (List D)) :=
  ob (lenD x_standing) fun t2 => rb (m__law_take x_store t2) fun r1 => rb (m__law_take r1.2 (.int 9)) fun r4 => ob (ixD (.str qx_32202d614f7e2e3e78) r4.1) fun t3 => ob (addD x_standing (.str q_0)) fun t5 => ob (addD x_standing (.str q_1)) fun t6 => ob (negD (.int 1)) fun t9 => ob (asI t9) fun t8 => ob (slS none (some t8) x_standing) fun t7 => ob (asI r1.1) fun t13 => ob (slS none (some t13) x_standing) fun t12 => ob (addD t12 t3) fun t11 => ob (addD r1.1 (.int 1)) fun t16 => ob (asI t16) fun t15 => ob (slS (some t15) none x_standing) fun t14 => ob (addD t11 t14) fun t10 => ob (powD (.int 10) (.int 29)) fun t17 => ob (listSD x_standing) fun t18 => ob (catD (.lst [t5, t6, t7, t10, (.str qx_), t3]) (.lst [.non, (.int 0), (.int 1), (.bl true), (.lst [(.str q_0)]), (.tup [(.str q_0), (.str q_1)]), (.dct false []), t17, (.lst t18)])) fun t20 => rb (m__law_take r4.2 (.int 15)) fun r21 => ob (ixD (.lst t20) r21.1) fun t19 => .ok (t19, r21.2)
abbrev s__law_no_standing : Stmt := topS 44
theorem sc__law_no_standing : FnScope ["store", "standing", "at", "sign", "texts", "things"] ["store", "standing"] (defScope s__law_no_standing) := ⟨rfl, rfl, rfl, by decide +kernel, rfl, by decide +kernel, by decide +kernel⟩
def m__law_cell (x_script : D) (x_k : D) : Res D :=
  (ob (lenD x_script) fun t2 => ob (ltD x_k t2) fun t1 => if t1 = true then ob (ixD x_script x_k) fun t3 => .ok t3 else ob (mulD (.int 7) x_k) fun t7 => ob (mulD t7 x_k) fun t6 => ob (mulD (.int 3) x_k) fun t8 => ob (addD t6 t8) fun t5 => ob (addD t5 (.int 11)) fun t4 => .ok t4)
abbrev s__law_cell : Stmt := topS 28
theorem sc__law_cell : FnScope ["script", "k"] ["script", "k"] (defScope s__law_cell) := ⟨rfl, rfl, rfl, by decide +kernel, rfl, by decide +kernel, by decide +kernel⟩
def m_need_standing (x_net : D) (x_standing : D) : Res D :=
  (ob (isK x_standing .str) fun t3 => ob (asB (.bl t3)) fun t2 => rb (if (!t2) = true then .ok (true, ()) else ob (lenD x_standing) fun t5 => ob (ixD x_net (.int 0)) fun t8 => ob (lenD t8) fun t7 => ob (ixD x_net (.int 1)) fun t10 => ob (lenD t10) fun t9 => ob (addD t7 t9) fun t6 => ob (neD t5 t6) fun t4 => .ok (t4, ()) : Res (Bool × Unit)) fun p1 => if p1.1 = true then .err ⟨1, none⟩ else (ob (strLD x_standing) fun ds14 => rb (fmR ds14 fun d12 => ob (notInD d12 (.str q_01)) fun t15 => if t15 = true then .ok (some d12) else .ok none) fun ys13 => ob (neD (.lst ys13) (.lst [])) fun t11 => if t11 = true then .err ⟨1, none⟩ else .ok .non))
abbrev s_need_standing : Stmt := topS 10
theorem sc_need_standing : FnScope ["net", "standing", "sign"] ["net", "standing"] (defScope s_need_standing) := ⟨rfl, rfl, rfl, by decide +kernel, rfl, by decide +kernel, by decide +kernel⟩
theorem blk_need_standing_0 : BlkOk ["net", "standing", "sign"] (defScope s_need_standing) { kind := PySem.ScopeKind.function, names := [(PySem.Str.ofString ".0", PySem.NameKind.local), (PySem.Str.ofString "sign", PySem.NameKind.local)], isGenerator := false, isCoroutine := false, more := [] : PySem.Scope } [("sign", 2)] := ⟨rfl, by decide +kernel, by decide +kernel, by decide +kernel, by decide +kernel⟩
def m_wires_of (x_net : D) : Res (List D) :=
  ob (ixD x_net (.int 0)) fun t3 => ob (listD t3) fun t2 => ob (ixD x_net (.int 1)) fun t7 => ob (asLst t7) fun ds6 => rb (fmR ds6 fun d4 => ob (un2 d4) fun p8 => .ok (some p8.1)) fun ys5 => ob (catD (.lst t2) (.lst ys5)) fun t1 => .ok t1
abbrev s_wires_of : Stmt := topS 9
theorem sc_wires_of : FnScope ["net", "name", "rule"] ["net"] (defScope s_wires_of) := ⟨rfl, rfl, rfl, by decide +kernel, rfl, by decide +kernel, by decide +kernel⟩
theorem blk_wires_of_0 : BlkOk ["net", "name", "rule"] (defScope s_wires_of) { kind := PySem.ScopeKind.function, names := [ (PySem.Str.ofString ".0", PySem.NameKind.local), (PySem.Str.ofString "name", PySem.NameKind.local), (PySem.Str.ofString "rule", PySem.NameKind.local)], isGenerator := false, isCoroutine := false, more := [] : PySem.Scope } [("name", 1), ("rule", 2)] := ⟨rfl, by decide +kernel, by decide +kernel, by decide +kernel, by decide +kernel⟩
def m_signs_by_name (x_net : D) (x_standing : D) : Res (List (D × D)) :=
  rb (m_wires_of x_net) fun r2 => ob (dzipD (.lst r2) x_standing) fun t1 => .ok t1
abbrev s_signs_by_name : Stmt := topS 11
theorem sc_signs_by_name : FnScope ["net", "standing"] ["net", "standing"] (defScope s_signs_by_name) := ⟨rfl, rfl, rfl, by decide +kernel, rfl, by decide +kernel, by decide +kernel⟩
def m_rule_holds : Nat → D → D → Res D
  | 0, _, _ => .fail
  | n_ + 1, x_rule, x_signs => (ob (ixD x_rule (.int 0)) fun t2 => ob (eqD t2 (.str q_wire)) fun t1 => if t1 = true then ob (ixD x_rule (.int 1)) fun t5 => ob (dgetD x_signs t5) fun t4 => ob (eqD t4 (.str q_1)) fun t3 => .ok (.bl t3) else (ob (ixD x_rule (.int 0)) fun t7 => ob (eqD t7 (.str q_not)) fun t6 => if t6 = true then ob (ixD x_rule (.int 1)) fun t10 => rb (m_rule_holds n_ t10 x_signs) fun r9 => ob (asB r9) fun t8 => .ok (.bl (!t8)) else (ob (ixD x_rule (.int 0)) fun t12 => ob (eqD t12 (.str q_and)) fun t11 => if t11 = true then ob (ixD x_rule (.int 1)) fun t16 => rb (m_rule_holds n_ t16 x_signs) fun r15 => ob (asB r15) fun t13 => rb (if t13 = true then ob (ixD x_rule (.int 2)) fun t18 => rb (m_rule_holds n_ t18 x_signs) fun r17 => .ok (r17, ()) else .ok (.bl false, ()) : Res (D × Unit)) fun p14 => .ok p14.1 else ob (ixD x_rule (.int 1)) fun t22 => rb (m_rule_holds n_ t22 x_signs) fun r21 => ob (asB r21) fun t19 => rb (if t19 = true then .ok (.bl true, ()) else ob (ixD x_rule (.int 2)) fun t24 => rb (m_rule_holds n_ t24 x_signs) fun r23 => .ok (r23, ()) : Res (D × Unit)) fun p20 => .ok p20.1)))
abbrev s_rule_holds : Stmt := topS 12
theorem sc_rule_holds : FnScope ["rule", "signs"] ["rule", "signs"] (defScope s_rule_holds) := ⟨rfl, rfl, rfl, by decide +kernel, rfl, by decide +kernel, by decide +kernel⟩
def m_asked_gates (x_net : D) (x_standing : D) : Res (List D) :=
  rb (m_need_standing x_net x_standing) fun r1 => rb (m_signs_by_name x_net x_standing) fun r2 => ob (ixD x_net (.int 1)) fun t6 => ob (asLst t6) fun ds5 => rb (fmR ds5 fun d3 => ob (un2 d3) fun p7 => rb (m_rule_holds 24 p7.2 (.dct false r2)) fun r9 => ob (dgetD (.dct false r2) p7.1) fun t11 => ob (eqD t11 (.str q_1)) fun t10 => ob (neD r9 (.bl t10)) fun t8 => if t8 = true then .ok (some p7.1) else .ok none) fun ys4 => .ok ys4
abbrev s_asked_gates : Stmt := topS 13
theorem sc_asked_gates : FnScope ["net", "standing", "signs", "name", "rule"] ["net", "standing"] (defScope s_asked_gates) := ⟨rfl, rfl, rfl, by decide +kernel, rfl, by decide +kernel, by decide +kernel⟩
theorem blk_asked_gates_0 : BlkOk ["net", "standing", "signs", "name", "rule"] (defScope s_asked_gates) { kind := PySem.ScopeKind.function, names := [ (PySem.Str.ofString ".0", PySem.NameKind.local), (PySem.Str.ofString "name", PySem.NameKind.local), (PySem.Str.ofString "rule", PySem.NameKind.local), (PySem.Str.ofString "rule_holds", PySem.NameKind.globalImplicit), (PySem.Str.ofString "signs", PySem.NameKind.free)], isGenerator := false, isCoroutine := false, more := [] : PySem.Scope } [("name", 3), ("rule", 4)] := ⟨rfl, by decide +kernel, by decide +kernel, by decide +kernel, by decide +kernel⟩
def m_with_turned (x_standing : D) (x_place : D) : Res D :=
  ob (asI x_place) fun t4 => ob (slS none (some t4) x_standing) fun t3 => ob (ixD x_standing x_place) fun t7 => ob (intD t7) fun t6 => ob (ixD (.str q_10) t6) fun t5 => ob (addD t3 t5) fun t2 => ob (addD x_place (.int 1)) fun t10 => ob (asI t10) fun t9 => ob (slS (some t9) none x_standing) fun t8 => ob (addD t2 t8) fun t1 => .ok t1
abbrev s_with_turned : Stmt := topS 14
theorem sc_with_turned : FnScope ["standing", "place"] ["standing", "place"] (defScope s_with_turned) := ⟨rfl, rfl, rfl, by decide +kernel, rfl, by decide +kernel, by decide +kernel⟩
def m_switch_gate (x_net : D) (x_standing : D) (x_name : D) : Res D :=
  (rb (m_asked_gates x_net x_standing) fun r2 => ob (notInD x_name (.lst r2)) fun t1 => if t1 = true then .err ⟨6, some .non⟩ else rb (m_wires_of x_net) fun r6 => ob (asLst (.lst r6)) fun t5 => ob (indexD (.lst r6) x_name) fun t4 => rb (m_with_turned x_standing t4) fun r3 => .ok r3)
abbrev s_switch_gate : Stmt := topS 15
theorem sc_switch_gate : FnScope ["net", "standing", "name"] ["net", "standing", "name"] (defScope s_switch_gate) := ⟨rfl, rfl, rfl, by decide +kernel, rfl, by decide +kernel, by decide +kernel⟩
def m_calmed_in (x_net : D) (x_standing : D) : Res D :=
  rb (m_asked_gates x_net x_standing) fun r1 => ob (asLst (.lst r1)) fun ds4 => rb (forL (Z := Unit) (R := D) ds4 () fun z3 d2 => ob (asLst (.lst r1)) fun ds7 => rb (forL (Z := Unit) (R := D) ds7 () fun z6 d5 => (ob (neD d5 d2) fun t9 => rb (if t9 = true then rb (m_switch_gate x_net x_standing d5) fun r12 => rb (m_asked_gates x_net r12) fun r11 => ob (notInD d2 (.lst r11)) fun t10 => .ok (t10, ()) else .ok (false, ()) : Res (Bool × Unit)) fun p8 => if p8.1 = true then .ok (.rt (.tup [d2, d5])) else .ok (.nx ()))) fun o => Fl.on o (fun z6 => .ok (.nx ())) (fun r => .ok (.rt r))) fun o => Fl.on o (fun z3 => .ok .non) (fun r => .ok r)
abbrev s_calmed_in : Stmt := topS 21
theorem sc_calmed_in : FnScope ["net", "standing", "some", "gate", "other"] ["net", "standing"] (defScope s_calmed_in) := ⟨rfl, rfl, rfl, by decide +kernel, rfl, by decide +kernel, by decide +kernel⟩
def m_first_race (x_net : D) (x_standing : D) : Res D :=
  rb (m_asked_gates x_net x_standing) fun r1 => (if (keyK x_standing).isSome = true then rb (whileF (Z := (D × (List (D × D)) × (List D))) (R := D) FU ((.int 0), [(x_standing, (.bl true))], [(.tup [x_standing, (.lst [])])]) (fun z2 => ob (lenD (.lst z2.2.2)) fun t4 => ob (ltD z2.1 t4) fun t3 => .ok t3) fun z2 => ob (ixD (.lst z2.2.2) z2.1) fun t5 => ob (un2 t5) fun p6 => ob (augD z2.1 (.int 1)) fun t7 => rb (m_calmed_in x_net p6.1) fun r8 => (ob (nnD r8 .non) fun t9 => if t9 = true then ob (ixD r8 (.int 0)) fun t10 => ob (ixD r8 (.int 1)) fun t11 => .ok (.rt (.tup [p6.2, t10, t11])) else rb (m_asked_gates x_net p6.1) fun r15 => ob (asLst (.lst r15)) fun ds14 => rb (forN (Z := ((List (D × D)) × (List D))) ds14 (z2.2.1, z2.2.2) fun z13 d12 => rb (m_switch_gate x_net p6.1 d12) fun r16 => (ob (dinD r16 (.dct false z13.1)) fun t17 => if (!t17) = true then ob (dputD false z13.1 r16 (.bl true)) fun t18 => ob (catD p6.2 (.lst [d12])) fun t20 => ob (apL z13.2 (.tup [r16, (.lst t20)])) fun t19 => .ok (t18, t19) else .ok (z13.1, z13.2))) fun z13 => .ok (.nx (t7, z13.1, z13.2)))) fun o => Fl.on o (fun z2 => .ok .non) (fun r => .ok r) else .fail)
abbrev s_first_race : Stmt := topS 22
theorem sc_first_race : FnScope ["net", "standing", "line", "met", "at", "found", "gate", "here", "order", "there"] ["net", "standing"] (defScope s_first_race) := ⟨rfl, rfl, rfl, by decide +kernel, rfl, by decide +kernel, by decide +kernel⟩
abbrev s__law_class : Stmt := topS 42
theorem sc__law_class : FnScope ["e"] ["e"] (defScope s__law_class) := ⟨rfl, rfl, rfl, by decide +kernel, rfl, by decide +kernel, by decide +kernel⟩
def m_steps_from (x_net : D) (x_standing : D) : Res (List D) :=
  rb (m_wires_of x_net) fun r1 => rb (m_asked_gates x_net x_standing) fun r5 => ob (asLst (.lst r5)) fun ds4 => rb (forN (Z := (List D)) ds4 [] fun z3 d2 => ob (asLst (.lst r1)) fun t7 => ob (indexD (.lst r1) d2) fun t6 => ob (asI t6) fun t12 => ob (slS none (some t12) x_standing) fun t11 => ob (ixD x_standing t6) fun t15 => ob (intD t15) fun t14 => ob (ixD (.str q_10) t14) fun t13 => ob (addD t11 t13) fun t10 => ob (addD t6 (.int 1)) fun t18 => ob (asI t18) fun t17 => ob (slS (some t17) none x_standing) fun t16 => ob (addD t10 t16) fun t9 => ob (apL z3 (.tup [d2, t9])) fun t8 => .ok t8) fun z3 => .ok z3
abbrev s_steps_from : Stmt := topS 17
theorem sc_steps_from : FnScope ["net", "standing", "names", "found", "name", "at"] ["net", "standing"] (defScope s_steps_from) := ⟨rfl, rfl, rfl, by decide +kernel, rfl, by decide +kernel, by decide +kernel⟩
def m_first_orders (x_net : D) (x_standing : D) : Res (List (D × D)) :=
  rb (m_asked_gates x_net x_standing) fun r1 => (if (keyK x_standing).isSome = true then rb (whileN (Z := ((List (D × D)) × (List D) × D)) FU ([(x_standing, (.lst []))], [x_standing], (.int 0)) (fun z2 => ob (lenD (.lst z2.2.1)) fun t4 => ob (ltD z2.2.2 t4) fun t3 => .ok t3) fun z2 => ob (ixD (.lst z2.2.1) z2.2.2) fun t9 => rb (m_steps_from x_net t9) fun r8 => ob (asLst (.lst r8)) fun ds7 => rb (forN (Z := ((List (D × D)) × (List D))) ds7 (z2.1, z2.2.1) fun z6 d5 => ob (un2 d5) fun p10 => (ob (dinD p10.2 (.dct false z6.1)) fun t11 => if (!t11) = true then ob (ixD (.lst z6.2) z2.2.2) fun t15 => ob (dgetD (.dct false z6.1) t15) fun t14 => ob (catD t14 (.lst [p10.1])) fun t13 => ob (dputD false z6.1 p10.2 (.lst t13)) fun t12 => ob (apL z6.2 p10.2) fun t16 => .ok (t12, t16) else .ok (z6.1, z6.2))) fun z6 => ob (augD z2.2.2 (.int 1)) fun t17 => .ok (z6.1, z6.2, t17)) fun z2 => .ok z2.1 else .fail)
abbrev s_first_orders : Stmt := topS 18
theorem sc_first_orders : FnScope ["net", "standing", "found", "line", "at", "name", "there"] ["net", "standing"] (defScope s_first_orders) := ⟨rfl, rfl, rfl, by decide +kernel, rfl, by decide +kernel, by decide +kernel⟩
def m_all_standings (x_net : D) (x_standing : D) : Res (List D) :=
  rb (m_first_orders x_net x_standing) fun r2 => ob (sortDD (.dct false r2)) fun t1 => .ok t1
abbrev s_all_standings : Stmt := topS 19
theorem sc_all_standings : FnScope ["net", "standing"] ["net", "standing"] (defScope s_all_standings) := ⟨rfl, rfl, rfl, by decide +kernel, rfl, by decide +kernel, by decide +kernel⟩
def m_calm_paper (x_net : D) (x_standing : D) : Res D :=
  (rb (m_first_race x_net x_standing) fun r2 => ob (nnD r2 .non) fun t1 => if t1 = true then .ok .non else rb (m_all_standings x_net x_standing) fun r3 => .ok (.lst r3))
abbrev s_calm_paper : Stmt := topS 23
theorem sc_calm_paper : FnScope ["net", "standing"] ["net", "standing"] (defScope s_calm_paper) := ⟨rfl, rfl, rfl, by decide +kernel, rfl, by decide +kernel, by decide +kernel⟩
def m_is_standing (x_net : D) (x_text : D) : Res D :=
  ob (lenD x_text) fun t4 => rb (m_wires_of x_net) fun r6 => ob (lenD (.lst r6)) fun t5 => ob (eqD t4 t5) fun t3 => ob (asB (.bl t3)) fun t1 => rb (if t1 = true then ob (strLD x_text) fun ds10 => rb (fmR ds10 fun d8 => ob (notInD d8 (.str q_01)) fun t11 => if t11 = true then .ok (some d8) else .ok none) fun ys9 => ob (eqD (.lst ys9) (.lst [])) fun t7 => .ok ((.bl t7), ()) else .ok (.bl false, ()) : Res (D × Unit)) fun p2 => .ok p2.1
abbrev s_is_standing : Stmt := topS 24
theorem sc_is_standing : FnScope ["net", "text", "sign"] ["net", "text"] (defScope s_is_standing) := ⟨rfl, rfl, rfl, by decide +kernel, rfl, by decide +kernel, by decide +kernel⟩
theorem blk_is_standing_0 : BlkOk ["net", "text", "sign"] (defScope s_is_standing) { kind := PySem.ScopeKind.function, names := [(PySem.Str.ofString ".0", PySem.NameKind.local), (PySem.Str.ofString "sign", PySem.NameKind.local)], isGenerator := false, isCoroutine := false, more := [] : PySem.Scope } [("sign", 2)] := ⟨rfl, by decide +kernel, by decide +kernel, by decide +kernel, by decide +kernel⟩
def m_is_calm_in (x_net : D) (x_standing : D) (x_some : D) : Res D :=
  (rb (m_is_standing x_net x_standing) fun r3 => ob (asB r3) fun t2 => rb (if (!t2) = true then .ok (true, ()) else rb (m_calmed_in x_net x_standing) fun r5 => ob (nnD r5 .non) fun t4 => .ok (t4, ()) : Res (Bool × Unit)) fun p1 => if p1.1 = true then .ok (.bl false) else rb (m_asked_gates x_net x_standing) fun r9 => ob (asLst (.lst r9)) fun ds8 => rb (forL (Z := Unit) (R := D) ds8 () fun z7 d6 => (rb (m_switch_gate x_net x_standing d6) fun r11 => ob (dinD r11 x_some) fun t10 => if (!t10) = true then .ok (.rt (.bl false)) else .ok (.nx ()))) fun o => Fl.on o (fun z7 => .ok (.bl true)) (fun r => .ok r))
abbrev s_is_calm_in : Stmt := topS 25
theorem sc_is_calm_in : FnScope ["net", "standing", "some", "gate"] ["net", "standing", "some"] (defScope s_is_calm_in) := ⟨rfl, rfl, rfl, by decide +kernel, rfl, by decide +kernel, by decide +kernel⟩
def m_calm_shows (x_net : D) (x_standing : D) (x_paper : D) : Res D :=
  rb (m_asked_gates x_net x_standing) fun r1 => ob (asLst x_paper) fun ds4 => rb (forN (Z := (List (D × D))) ds4 [] fun z3 d2 => ob (dputD false z3 d2 (.bl true)) fun t5 => .ok t5) fun z3 => (ob (dinD x_standing (.dct false z3)) fun t7 => rb (if (!t7) = true then .ok (true, ()) else ob (sortDD (.dct false z3)) fun t9 => ob (neD x_paper (.lst t9)) fun t8 => .ok (t8, ()) : Res (Bool × Unit)) fun p6 => if p6.1 = true then .ok (.bl false) else ob (asLst x_paper) fun ds19 => rb (forL (Z := Unit) (R := D) ds19 () fun z18 d17 => (rb (m_is_calm_in x_net d17 (.dct false z3)) fun r21 => ob (asB r21) fun t20 => if (!t20) = true then .ok (.rt (.bl false)) else .ok (.nx ()))) fun o => Fl.on o (fun z18 => .ok (.bl true)) (fun r => .ok r))
abbrev s_calm_shows : Stmt := topS 26
theorem sc_calm_shows : FnScope ["net", "standing", "paper", "some", "one"] ["net", "standing", "paper"] (defScope s_calm_shows) := ⟨rfl, rfl, rfl, by decide +kernel, rfl, by decide +kernel, by decide +kernel⟩
def m__law_refused (x_way : D) (x_net : D) (x_thing : D) (x_paper : D) : Res D :=
  rb (tryWM (Z := D) 1 ((ob (eqD x_way (.int 0)) fun t2 => if t2 = true then rb (m_first_race x_net x_thing) fun r3 => .ok (.str qx_) else (ob (eqD x_way (.int 1)) fun t4 => if t4 = true then rb (m_calm_paper x_net x_thing) fun r5 => .ok (.str qx_) else rb (m_calm_shows x_net x_thing x_paper) fun r6 => .ok (.str qx_)))) (.str q_standing)) fun z1 => ob (eqD z1 (.str q_standing)) fun t7 => .ok (.bl t7)
abbrev s__law_refused : Stmt := topS 43
theorem sc__law_refused : FnScope ["way", "net", "thing", "paper", "word", "e"] ["way", "net", "thing", "paper"] (defScope s__law_refused) := ⟨rfl, rfl, rfl, by decide +kernel, rfl, by decide +kernel, by decide +kernel⟩
def m_law (x_script : D) : Res D :=
  ob (lenD x_script) fun t6 => ob (maxD t6 (.int 3)) fun t5 => ob (minD t5 (.int 12)) fun t4 => ob (rngD (.int 0) t4) fun ds3 => rb (forL (Z := Unit) (R := D) ds3 () fun z2 d1 => rb (m__law_cell x_script d1) fun r8 => rb (m__law_store r8) fun r7 => rb (m__law_net r7 (.int 7)) fun r9 => rb (m__law_standing r9.2 r9.1) fun r10 => rb (m__law_standing r10.2 r9.1) fun r12 => ob (sortD (.lst [r10.1, r12.1])) fun t11 => rb (m__law_no_standing r12.2 r10.1) fun r13 => ob (rngD (.int 0) (.int 3)) fun ds16 => rb (forL (Z := Unit) (R := D) ds16 () fun z15 d14 => (rb (m__law_refused d14 r9.1 r13.1 (.lst t11)) fun r18 => ob (asB r18) fun t17 => if (!t17) = true then .ok (.rt (.bl false)) else .ok (.nx ()))) fun o => Fl.on o (fun z15 => .ok (.nx ())) (fun r => .ok (.rt r))) fun o => Fl.on o (fun z2 => .ok (.bl true)) (fun r => .ok r)
abbrev s_law : Stmt := topS 45
theorem sc_law : FnScope ["script", "at", "store", "net", "standing", "paper", "thing", "way"] ["script"] (defScope s_law) := ⟨rfl, rfl, rfl, by decide +kernel, rfl, by decide +kernel, by decide +kernel⟩
abbrev s_init : Stmt := (clsB (topS 7)).getD 0 (.Pass ⟨0, 0, 0, 0⟩)
theorem sc_init : FnScope ["self", "at"] ["self", "at"] (defScope s_init) := ⟨rfl, rfl, rfl, by decide +kernel, rfl, by decide +kernel, by decide +kernel⟩
set_option genInjectivity false in
set_option genSizeOf false in
structure Tx [EC] (K : PySem.W.Frag) (mg : Str → Option Value) where
  a__law_store : Addr
  d__law_store : FuncData
  F__law_store : Fun K "_law_store" "_law_store" s__law_store a__law_store d__law_store
  b__law_store : Binds K d__law_store ["cell"] []
  g__law_store : mg "_law_store" = some (.ref a__law_store)
  a__law_take : Addr
  d__law_take : FuncData
  F__law_take : Fun K "_law_take" "_law_take" s__law_take a__law_take d__law_take
  b__law_take : Binds K d__law_take ["store", "many"] []
  g__law_take : mg "_law_take" = some (.ref a__law_take)
  a__law_names : Addr
  d__law_names : FuncData
  F__law_names : Fun K "_law_names" "_law_names" s__law_names a__law_names d__law_names
  b__law_names : Binds K d__law_names ["store", "many"] []
  g__law_names : mg "_law_names" = some (.ref a__law_names)
  a__law_rule : Addr
  d__law_rule : FuncData
  F__law_rule : Fun K "_law_rule" "_law_rule" s__law_rule a__law_rule d__law_rule
  b__law_rule : Binds K d__law_rule ["store", "names", "deep"] []
  g__law_rule : mg "_law_rule" = some (.ref a__law_rule)
  a__law_holder : Addr
  d__law_holder : FuncData
  F__law_holder : Fun K "_law_holder" "_law_holder" s__law_holder a__law_holder d__law_holder
  b__law_holder : Binds K d__law_holder ["one", "other", "own"] []
  g__law_holder : mg "_law_holder" = some (.ref a__law_holder)
  a__law_known_rule : Addr
  d__law_known_rule : FuncData
  F__law_known_rule : Fun K "_law_known_rule" "_law_known_rule" s__law_known_rule a__law_known_rule d__law_known_rule
  b__law_known_rule : Binds K d__law_known_rule ["kind", "names", "at", "ins"] []
  g__law_known_rule : mg "_law_known_rule" = some (.ref a__law_known_rule)
  a__law_net : Addr
  d__law_net : FuncData
  F__law_net : Fun K "_law_net" "_law_net" s__law_net a__law_net d__law_net
  b__law_net : Binds K d__law_net ["store", "most"] []
  g__law_net : mg "_law_net" = some (.ref a__law_net)
  a__law_standing : Addr
  d__law_standing : FuncData
  F__law_standing : Fun K "_law_standing" "_law_standing" s__law_standing a__law_standing d__law_standing
  b__law_standing : Binds K d__law_standing ["store", "net"] []
  g__law_standing : mg "_law_standing" = some (.ref a__law_standing)
  a__law_no_standing : Addr
  d__law_no_standing : FuncData
  F__law_no_standing : Fun K "_law_no_standing" "_law_no_standing" s__law_no_standing a__law_no_standing d__law_no_standing
  b__law_no_standing : Binds K d__law_no_standing ["store", "standing"] []
  g__law_no_standing : mg "_law_no_standing" = some (.ref a__law_no_standing)
  a__law_cell : Addr
  d__law_cell : FuncData
  F__law_cell : Fun K "_law_cell" "_law_cell" s__law_cell a__law_cell d__law_cell
  b__law_cell : Binds K d__law_cell ["script", "k"] []
  g__law_cell : mg "_law_cell" = some (.ref a__law_cell)
  a_need_standing : Addr
  d_need_standing : FuncData
  F_need_standing : Fun K "need_standing" "need_standing" s_need_standing a_need_standing d_need_standing
  b_need_standing : Binds K d_need_standing ["net", "standing"] []
  g_need_standing : mg "need_standing" = some (.ref a_need_standing)
  a_wires_of : Addr
  d_wires_of : FuncData
  F_wires_of : Fun K "wires_of" "wires_of" s_wires_of a_wires_of d_wires_of
  b_wires_of : Binds K d_wires_of ["net"] []
  g_wires_of : mg "wires_of" = some (.ref a_wires_of)
  a_signs_by_name : Addr
  d_signs_by_name : FuncData
  F_signs_by_name : Fun K "signs_by_name" "signs_by_name" s_signs_by_name a_signs_by_name d_signs_by_name
  b_signs_by_name : Binds K d_signs_by_name ["net", "standing"] []
  g_signs_by_name : mg "signs_by_name" = some (.ref a_signs_by_name)
  a_rule_holds : Addr
  d_rule_holds : FuncData
  F_rule_holds : Fun K "rule_holds" "rule_holds" s_rule_holds a_rule_holds d_rule_holds
  b_rule_holds : Binds K d_rule_holds ["rule", "signs"] []
  g_rule_holds : mg "rule_holds" = some (.ref a_rule_holds)
  a_asked_gates : Addr
  d_asked_gates : FuncData
  F_asked_gates : Fun K "asked_gates" "asked_gates" s_asked_gates a_asked_gates d_asked_gates
  b_asked_gates : Binds K d_asked_gates ["net", "standing"] []
  g_asked_gates : mg "asked_gates" = some (.ref a_asked_gates)
  a_with_turned : Addr
  d_with_turned : FuncData
  F_with_turned : Fun K "with_turned" "with_turned" s_with_turned a_with_turned d_with_turned
  b_with_turned : Binds K d_with_turned ["standing", "place"] []
  g_with_turned : mg "with_turned" = some (.ref a_with_turned)
  a_switch_gate : Addr
  d_switch_gate : FuncData
  F_switch_gate : Fun K "switch_gate" "switch_gate" s_switch_gate a_switch_gate d_switch_gate
  b_switch_gate : Binds K d_switch_gate ["net", "standing", "name"] []
  g_switch_gate : mg "switch_gate" = some (.ref a_switch_gate)
  a_calmed_in : Addr
  d_calmed_in : FuncData
  F_calmed_in : Fun K "calmed_in" "calmed_in" s_calmed_in a_calmed_in d_calmed_in
  b_calmed_in : Binds K d_calmed_in ["net", "standing"] []
  g_calmed_in : mg "calmed_in" = some (.ref a_calmed_in)
  a_first_race : Addr
  d_first_race : FuncData
  F_first_race : Fun K "first_race" "first_race" s_first_race a_first_race d_first_race
  b_first_race : Binds K d_first_race ["net", "standing"] []
  g_first_race : mg "first_race" = some (.ref a_first_race)
  a__law_class : Addr
  d__law_class : FuncData
  F__law_class : Fun K "_law_class" "_law_class" s__law_class a__law_class d__law_class
  b__law_class : Binds K d__law_class ["e"] []
  g__law_class : mg "_law_class" = some (.ref a__law_class)
  a_steps_from : Addr
  d_steps_from : FuncData
  F_steps_from : Fun K "steps_from" "steps_from" s_steps_from a_steps_from d_steps_from
  b_steps_from : Binds K d_steps_from ["net", "standing"] []
  g_steps_from : mg "steps_from" = some (.ref a_steps_from)
  a_first_orders : Addr
  d_first_orders : FuncData
  F_first_orders : Fun K "first_orders" "first_orders" s_first_orders a_first_orders d_first_orders
  b_first_orders : Binds K d_first_orders ["net", "standing"] []
  g_first_orders : mg "first_orders" = some (.ref a_first_orders)
  a_all_standings : Addr
  d_all_standings : FuncData
  F_all_standings : Fun K "all_standings" "all_standings" s_all_standings a_all_standings d_all_standings
  b_all_standings : Binds K d_all_standings ["net", "standing"] []
  g_all_standings : mg "all_standings" = some (.ref a_all_standings)
  a_calm_paper : Addr
  d_calm_paper : FuncData
  F_calm_paper : Fun K "calm_paper" "calm_paper" s_calm_paper a_calm_paper d_calm_paper
  b_calm_paper : Binds K d_calm_paper ["net", "standing"] []
  g_calm_paper : mg "calm_paper" = some (.ref a_calm_paper)
  a_is_standing : Addr
  d_is_standing : FuncData
  F_is_standing : Fun K "is_standing" "is_standing" s_is_standing a_is_standing d_is_standing
  b_is_standing : Binds K d_is_standing ["net", "text"] []
  g_is_standing : mg "is_standing" = some (.ref a_is_standing)
  a_is_calm_in : Addr
  d_is_calm_in : FuncData
  F_is_calm_in : Fun K "is_calm_in" "is_calm_in" s_is_calm_in a_is_calm_in d_is_calm_in
  b_is_calm_in : Binds K d_is_calm_in ["net", "standing", "some"] []
  g_is_calm_in : mg "is_calm_in" = some (.ref a_is_calm_in)
  a_calm_shows : Addr
  d_calm_shows : FuncData
  F_calm_shows : Fun K "calm_shows" "calm_shows" s_calm_shows a_calm_shows d_calm_shows
  b_calm_shows : Binds K d_calm_shows ["net", "standing", "paper"] []
  g_calm_shows : mg "calm_shows" = some (.ref a_calm_shows)
  a__law_refused : Addr
  d__law_refused : FuncData
  F__law_refused : Fun K "_law_refused" "_law_refused" s__law_refused a__law_refused d__law_refused
  b__law_refused : Binds K d__law_refused ["way", "net", "thing", "paper"] []
  g__law_refused : mg "_law_refused" = some (.ref a__law_refused)
  a_law : Addr
  d_law : FuncData
  F_law : Fun K "law" "law" s_law a_law d_law
  n_ValueError : mg "ValueError" = none
  n_dict : mg "dict" = none
  n_int : mg "int" = none
  n_isinstance : mg "isinstance" = none
  n_len : mg "len" = none
  n_list : mg "list" = none
  n_max : mg "max" = none
  n_min : mg "min" = none
  n_range : mg "range" = none
  n_sorted : mg "sorted" = none
  n_str : mg "str" = none
  n_zip : mg "zip" = none
  xf : XF K [0, 1, 2, 3, 4, 5, 6]
  xg_0 : mg "NetError" = some (.ref (EC.ec 0))
  xg_1 : mg "NoStanding" = some (.ref (EC.ec 1))
  xg_2 : mg "NoFit" = some (.ref (EC.ec 2))
  xg_3 : mg "NoText" = some (.ref (EC.ec 3))
  xg_4 : mg "NoName" = some (.ref (EC.ec 4))
  xg_5 : mg "NoRow" = some (.ref (EC.ec 5))
  xg_6 : mg "NoStep" = some (.ref (EC.ec 6))
  xk_1 : PySem.W.keepIn K (.ref (EC.ec 1)) = true
  xe_1 : PySem.W.excIn K (EC.ec 1) [.type "ValueError", .type "Exception", .type "BaseException", .type "object"] "ValueError.__new__" = true
  xt_1 : PySem.W.typeIn K (.ref (EC.ec 1)) = some (.type "type")
  a_init : Addr
  d_init : FuncData
  xo : OexC K (EC.ec 6)
  xi : PySem.W.findIn K (.ref (EC.ec 6)) "__init__" = some (some (.ref a_init))
  xit : PySem.W.typeIn K (.ref a_init) = some (.type "function")
  F_init : Fun K "__init__" "NoStep.__init__" s_init a_init d_init
  b_init : Binds K d_init ["self", "at"] []
section
variable [EC] {P : Program} {w : World} {K : PySem.W.Frag} {mg : Str → Option Value} {base : Heap}
theorem ok_init (T : Tx K mg) : FnOk P w K mg base CX0 1 T.a_init T.d_init ["self", "at"] (spInit K "at") := by
  refine T.F_init.ok sc_init (fun vs H Q E h => ?_) (fun cdv A outer s H vs Q E hr h => ⟨_, pss_one (ps_ost (pv 0) (pv 1)), ?_⟩)
  · obtain ⟨a, C, v, rfl, _⟩ := h; rfl
  · obtain ⟨a, C, v, rfl, ha, hO, hno, hq⟩ := h
    exact ⟨_, rfl, _, rfl, a, C, rfl, hO, hno, .inl ⟨ha, fun dx hdx ne => hq dx hdx ne⟩⟩
theorem ok__law_store (T : Tx K mg) : FnOk P w K mg base CX0 1 T.a__law_store T.d__law_store ["cell"] (spOf (A := D) (R := List D) EC.ec (fun a => [.f a]) (fun a => m__law_store a) (fun r => .l r) (fun r => [none])) := by
  refine T.F__law_store.ok sc__law_store (fun vs H Q E h => ?_) (fun cdv A outer s H vs Q E hr h => ?_)
  · obtain ⟨a, G, w, _, _, hl, _⟩ := h; exact hl
  · refine ⟨_, (pss_cons (ps_set (i := 1) sc__law_store.nd rfl (by first | exact .inl rfl | exact .inr rfl) pe_int) (pss_cons (ps_if (pt_cmpR op_ge (pv 0) (pe_op op_pow pe_int pe_int) (nomark _)) (pss_one (ps_set (i := 1) sc__law_store.nd rfl (by first | exact .inl rfl | exact .inr rfl) (pv 0))) pss_nil) (pss_one (ps_ret (pe_lst (pa_cons (pv 1) (pa_cons (pe_op op_mod (pv 0) pe_int) (pa_cons pe_int pa_nil)))))))), ?_⟩
    refine fn_body (K := K) [] (fun _ => by show (1 : Nat) ≤ 2; decide) (fun _ => by show ∀ k ∈ ([] : List Nat), k < 1; decide) h (fun F x_cell hec hE hK hpv => ?_)
    skip
    show RS F [] [some (.f x_cell), none] (m__law_store x_cell) _ _ _
    unfold m__law_store
    refine rs_seq ?_
    refine rs_set ?_ rfl (hpv _ (by decide))
    refine rd_int ?_
    refine ⟨_, rfl, (by show (1 : Nat) < 2; decide), ?_⟩
    refine rs_at [some (.f x_cell), some (.f (.int 0))] rfl ?_
    refine rs_seq ?_
    refine rs_join (Z := D) (fun z3 => [some (.f x_cell), some (.f z3)]) _ _ rfl ?_ (fun z3 => ?_)
    · refine rs_if ?_
      refine rt_op2B o_ge ?_
      refine rd_var rfl ?_
      intro _
      refine rd_op2 o_pow ?_
      refine rd_int ?_
      intro _
      refine rd_int ?_
      refine ⟨_, _, _, rfl, rfl, rfl, fun t5 => ?_⟩
      refine ⟨_, _, _, rfl, rfl, rfl, fun t4 => ?_⟩
      refine ⟨_, _, rfl, fun _ => ?_, fun _ => ?_⟩
      · refine rs_set ?_ rfl (hpv _ (by decide))
        refine rd_var rfl ?_
        refine ⟨_, rfl, (by show (1 : Nat) < 2; decide), ?_⟩
        exact ⟨_, rfl, ⟨.inr rfl, ⟨.inr rfl, trivial⟩⟩⟩
      · refine rs_next ?_
        exact ⟨_, rfl, ⟨.inr rfl, ⟨.inr rfl, trivial⟩⟩⟩
    · refine rs_at [some (.f x_cell), some (.f z3)] rfl ?_
      refine rs_ret ?_
      refine rd_lst ?_
      refine ra_cons ?_
      refine rd_var rfl ?_
      intro _
      refine ra_cons ?_
      refine rd_op2 o_mod ?_
      refine rd_var rfl ?_
      intro _
      refine rd_int ?_
      refine ⟨_, _, _, rfl, rfl, rfl, fun t6 => ?_⟩
      intro _
      refine ra_cons ?_
      refine rd_int ?_
      intro _
      refine ra_nil ?_
      refine ⟨[z3, t6, (.int 1)], rfl, (by show (3 : Nat) ≤ 1000; decide), ?_⟩
      refine ⟨_, rfl, ?_⟩
      exact ⟨_, rfl, rfl, trivial⟩
theorem ok__law_take (T : Tx K mg) : FnOk P w K mg base CX0 1 T.a__law_take T.d__law_take ["store", "many"] (spOf (A := (List D) × D) (R := D × (List D)) EC.ec (fun a => [.l a.1, .f a.2]) (fun a => m__law_take a.1 a.2) (fun r => .f r.1) (fun r => [some (.l r.2), none])) := by
  refine T.F__law_take.ok sc__law_take (fun vs H Q E h => ?_) (fun cdv A outer s H vs Q E hr h => ?_)
  · obtain ⟨a, G, w, _, _, hl, _⟩ := h; exact hl
  · refine ⟨_, (pss_cons (ps_if (pt_cmpR op_gt (pe_ix (ix_anyK (Kf := K) (by rfl)) (pv 0) pe_int (fun _ _ => rfl)) pe_int (nomark _)) (pss_cons (ps_set (i := 3) sc__law_take.nd rfl (by first | exact .inl rfl | exact .inr rfl) (pe_op op_mod (pe_ix (ix_anyK (Kf := K) (by rfl)) (pv 0) pe_int (fun _ _ => rfl)) (pv 1))) (pss_cons (ps_asg (pe_op op_fdiv (pe_ix (ix_anyK (Kf := K) (by rfl)) (pv 0) pe_int (fun _ _ => rfl)) (pv 1)) (pg_sub (pv 0) pe_int set_list)) (pss_one (ps_ret (pv 3))))) pss_nil) (pss_cons (ps_asg (pe_op op_addA (pe_ix (ix_anyK (Kf := K) (by rfl)) (pv 0) pe_int (fun _ _ => rfl)) pe_int) (pg_sub (pv 0) pe_int set_list)) (pss_cons (ps_set (i := 2) sc__law_take.nd rfl (by first | exact .inl rfl | exact .inr rfl) (pe_op op_mod (pe_op op_mul (pe_op op_addA (pe_ix (ix_anyK (Kf := K) (by rfl)) (pv 0) pe_int (fun _ _ => rfl)) (pe_op op_mul pe_int (pe_ix (ix_anyK (Kf := K) (by rfl)) (pv 0) pe_int (fun _ _ => rfl)))) pe_int) pe_int)) (pss_cons (ps_set (i := 2) sc__law_take.nd rfl (by first | exact .inl rfl | exact .inr rfl) (pe_op op_mod (pe_op op_mul (pv 2) (pv 2)) pe_int)) (pss_cons (ps_set (i := 2) sc__law_take.nd rfl (by first | exact .inl rfl | exact .inr rfl) (pe_op op_mod (pe_op op_mul (pe_op op_addA (pv 2) (pe_op op_mul pe_int (pe_ix (ix_anyK (Kf := K) (by rfl)) (pv 0) pe_int (fun _ _ => rfl)))) pe_int) pe_int)) (pss_one (ps_ret (pe_op op_mod (pe_op op_fdiv (pv 2) pe_int) (pv 1))))))))), ?_⟩
    refine fn_body (K := K) [0] (fun _ => by show (2 : Nat) ≤ 4; decide) (fun _ => by show ∀ k ∈ ([0] : List Nat), k < 2; decide) h (fun F a hec hE hK hpv => ?_)
    obtain ⟨x_store, x_many⟩ := a
    show RS F [] [some (.l x_store), some (.f x_many), none, none] (m__law_take x_store x_many) _ _ _
    unfold m__law_take
    refine rs_seq ?_
    refine rs_if ?_
    refine rt_op2B o_gt ?_
    refine rd_op2 o_ix ?_
    refine rd_ali rfl ?_
    intro _
    refine rd_int ?_
    refine ⟨_, _, _, rfl, rfl, rfl, fun t2 => ?_⟩
    intro _
    refine rd_int ?_
    refine ⟨_, _, _, rfl, rfl, rfl, fun t1 => ?_⟩
    refine ⟨_, _, rfl, fun _ => ?_, fun _ => ?_⟩
    · refine rs_seq ?_
      refine rs_set ?_ rfl (hpv _ (by decide))
      refine rd_op2 o_mod ?_
      refine rd_op2 o_ix ?_
      refine rd_ali rfl ?_
      intro _
      refine rd_int ?_
      refine ⟨_, _, _, rfl, rfl, rfl, fun t4 => ?_⟩
      intro _
      refine rd_var rfl ?_
      refine ⟨_, _, _, rfl, rfl, rfl, fun t3 => ?_⟩
      refine ⟨_, rfl, (by show (3 : Nat) < 4; decide), ?_⟩
      refine rs_at [some (.l x_store), some (.f x_many), none, some (.f t3)] rfl ?_
      refine rs_seq ?_
      refine rs_setL ?_
      refine rd_op2 o_fdiv ?_
      refine rd_op2 o_ix ?_
      refine rd_ali rfl ?_
      intro _
      refine rd_int ?_
      refine ⟨_, _, _, rfl, rfl, rfl, fun t7 => ?_⟩
      intro _
      refine rd_var rfl ?_
      refine ⟨_, _, _, rfl, rfl, rfl, fun t6 => ?_⟩
      refine ⟨_, rfl, fun _ => ?_⟩
      refine rd_ali rfl ?_
      refine ⟨0, rfl, fun _ => ?_⟩
      refine rd_int ?_
      refine ⟨_, _, _, rfl, rfl, rfl, fun t5 => ?_⟩
      refine rs_at [some (.l t5), some (.f x_many), none, some (.f t3)] rfl ?_
      refine rs_ret ?_
      refine rd_var rfl ?_
      refine ⟨_, rfl, ?_⟩
      exact ⟨_, rfl, rfl, ⟨rfl, by decide, trivial⟩⟩
    · refine rs_next ?_
      refine rs_at [some (.l x_store), some (.f x_many), none, none] rfl ?_
      refine rs_seq ?_
      refine rs_setL ?_
      refine rd_op2 o_add ?_
      refine rd_op2 o_ix ?_
      refine rd_ali rfl ?_
      intro _
      refine rd_int ?_
      refine ⟨_, _, _, rfl, rfl, rfl, fun t10 => ?_⟩
      intro _
      refine rd_int ?_
      refine ⟨_, _, _, rfl, rfl, rfl, fun t9 => ?_⟩
      refine ⟨_, rfl, fun _ => ?_⟩
      refine rd_ali rfl ?_
      refine ⟨0, rfl, fun _ => ?_⟩
      refine rd_int ?_
      refine ⟨_, _, _, rfl, rfl, rfl, fun t8 => ?_⟩
      refine rs_at [some (.l t8), some (.f x_many), none, none] rfl ?_
      refine rs_seq ?_
      refine rs_set ?_ rfl (hpv _ (by decide))
      refine rd_op2 o_mod ?_
      refine rd_op2 o_mul ?_
      refine rd_op2 o_add ?_
      refine rd_op2 o_ix ?_
      refine rd_ali rfl ?_
      intro _
      refine rd_int ?_
      refine ⟨_, _, _, rfl, rfl, rfl, fun t14 => ?_⟩
      intro _
      refine rd_op2 o_mul ?_
      refine rd_int ?_
      intro _
      refine rd_op2 o_ix ?_
      refine rd_ali rfl ?_
      intro _
      refine rd_int ?_
      refine ⟨_, _, _, rfl, rfl, rfl, fun t16 => ?_⟩
      refine ⟨_, _, _, rfl, rfl, rfl, fun t15 => ?_⟩
      refine ⟨_, _, _, rfl, rfl, rfl, fun t13 => ?_⟩
      intro _
      refine rd_int ?_
      refine ⟨_, _, _, rfl, rfl, rfl, fun t12 => ?_⟩
      intro _
      refine rd_int ?_
      refine ⟨_, _, _, rfl, rfl, rfl, fun t11 => ?_⟩
      refine ⟨_, rfl, (by show (2 : Nat) < 4; decide), ?_⟩
      refine rs_at [some (.l t8), some (.f x_many), some (.f t11), none] rfl ?_
      refine rs_seq ?_
      refine rs_set ?_ rfl (hpv _ (by decide))
      refine rd_op2 o_mod ?_
      refine rd_op2 o_mul ?_
      refine rd_var rfl ?_
      intro _
      refine rd_var rfl ?_
      refine ⟨_, _, _, rfl, rfl, rfl, fun t18 => ?_⟩
      intro _
      refine rd_int ?_
      refine ⟨_, _, _, rfl, rfl, rfl, fun t17 => ?_⟩
      refine ⟨_, rfl, (by show (2 : Nat) < 4; decide), ?_⟩
      refine rs_at [some (.l t8), some (.f x_many), some (.f t17), none] rfl ?_
      refine rs_seq ?_
      refine rs_set ?_ rfl (hpv _ (by decide))
      refine rd_op2 o_mod ?_
      refine rd_op2 o_mul ?_
      refine rd_op2 o_add ?_
      refine rd_var rfl ?_
      intro _
      refine rd_op2 o_mul ?_
      refine rd_int ?_
      intro _
      refine rd_op2 o_ix ?_
      refine rd_ali rfl ?_
      intro _
      refine rd_int ?_
      refine ⟨_, _, _, rfl, rfl, rfl, fun t23 => ?_⟩
      refine ⟨_, _, _, rfl, rfl, rfl, fun t22 => ?_⟩
      refine ⟨_, _, _, rfl, rfl, rfl, fun t21 => ?_⟩
      intro _
      refine rd_int ?_
      refine ⟨_, _, _, rfl, rfl, rfl, fun t20 => ?_⟩
      intro _
      refine rd_int ?_
      refine ⟨_, _, _, rfl, rfl, rfl, fun t19 => ?_⟩
      refine ⟨_, rfl, (by show (2 : Nat) < 4; decide), ?_⟩
      refine rs_at [some (.l t8), some (.f x_many), some (.f t19), none] rfl ?_
      refine rs_ret ?_
      refine rd_op2 o_mod ?_
      refine rd_op2 o_fdiv ?_
      refine rd_var rfl ?_
      intro _
      refine rd_int ?_
      refine ⟨_, _, _, rfl, rfl, rfl, fun t25 => ?_⟩
      intro _
      refine rd_var rfl ?_
      refine ⟨_, _, _, rfl, rfl, rfl, fun t24 => ?_⟩
      refine ⟨_, rfl, ?_⟩
      exact ⟨_, rfl, rfl, ⟨rfl, by decide, trivial⟩⟩
theorem ok__law_names (T : Tx K mg) : FnOk P w K mg base CX0 2 T.a__law_names T.d__law_names ["store", "many"] (spOf (A := (List D) × D) (R := (List D) × (List D)) EC.ec (fun a => [.l a.1, .f a.2]) (fun a => m__law_names a.1 a.2) (fun r => .l r.1) (fun r => [some (.l r.2), none])) := by
  refine T.F__law_names.ok sc__law_names (fun vs H Q E h => ?_) (fun cdv A outer s H vs Q E hr h => ?_)
  · obtain ⟨a, G, w, _, _, hl, _⟩ := h; exact hl
  · refine ⟨_, (pss_cons (ps_set (i := 2) sc__law_names.nd rfl (by first | exact .inl rfl | exact .inr rfl) (pe_lst (pa_cons pe_str (pa_cons pe_str (pa_cons pe_str (pa_cons pe_str (pa_cons pe_str (pa_cons pe_str (pa_cons pe_str (pa_cons pe_str (pa_cons pe_str (pa_cons pe_str (pa_cons pe_str (pa_cons pe_str (pa_cons pe_str (pa_cons pe_str (pa_cons pe_str pa_nil))))))))))))))))) (pss_one (ps_ret (pe_lc (own := [("k", 3)]) rfl (by exact sc__law_names.nd) (pi_range1 (by rfl) T.n_range (pa_cons (pv 1) pa_nil)) blk__law_names_0 (fun _ _ _ _ _ => (pg_name (i := 3) sc__law_names.nd rfl (by first | exact .inl rfl | exact .inr rfl))) (fun _ _ _ _ _ => pts_nil) (fun _ _ _ _ _ => (pe_bmK (Kf := K) (by rfl) PySem.F.plainAttrs_list PySem.F.slot_list_pop PySem.F.type_list_pop mt_popAt (pv 2) (pa_cons (pe_call (ok__law_take T) (hr.mono (by decide)) (by rfl) T.g__law_take T.F__law_take.kp T.b__law_take .nil (show Passes CX0 _ E from pass0) (pa_cons (pv 0) (pa_cons (pe_callB (call_lenK (Kf := K) (by rfl)) (by rfl) T.n_len PySem.boot_len (pa_cons (pv 2) pa_nil)) pa_nil))) pa_nil))))))), ?_⟩
    refine fn_body (K := K) [0] (fun _ => by show (2 : Nat) ≤ 4; decide) (fun _ => by show ∀ k ∈ ([0] : List Nat), k < 2; decide) h (fun F a hec hE hK hpv => ?_)
    obtain ⟨x_store, x_many⟩ := a
    show RS F [] [some (.l x_store), some (.f x_many), none, none] (m__law_names x_store x_many) _ _ _
    unfold m__law_names
    refine rs_seq ?_
    refine rs_set ?_ rfl (hpv _ (by decide))
    refine rd_lst ?_
    refine ra_cons ?_
    refine rd_str e_q_a ?_
    intro _
    refine ra_cons ?_
    refine rd_str e_q_b ?_
    intro _
    refine ra_cons ?_
    refine rd_str e_q_c ?_
    intro _
    refine ra_cons ?_
    refine rd_str e_q_ab ?_
    intro _
    refine ra_cons ?_
    refine rd_str e_q_ba ?_
    intro _
    refine ra_cons ?_
    refine rd_str e_q_hold ?_
    intro _
    refine ra_cons ?_
    refine rd_str e_q_set ?_
    intro _
    refine ra_cons ?_
    refine rd_str e_q_x ?_
    intro _
    refine ra_cons ?_
    refine rd_str e_q_zzzzzzzz ?_
    intro _
    refine ra_cons ?_
    refine rd_str e_q_aa ?_
    intro _
    refine ra_cons ?_
    refine rd_str e_q_wire ?_
    intro _
    refine ra_cons ?_
    refine rd_str e_q_not ?_
    intro _
    refine ra_cons ?_
    refine rd_str e_q_and ?_
    intro _
    refine ra_cons ?_
    refine rd_str e_q_or ?_
    intro _
    refine ra_cons ?_
    refine rd_str e_q_q ?_
    intro _
    refine ra_nil ?_
    refine ⟨[(.str q_a), (.str q_b), (.str q_c), (.str q_ab), (.str q_ba), (.str q_hold), (.str q_set), (.str q_x), (.str q_zzzzzzzz), (.str q_aa), (.str q_wire), (.str q_not), (.str q_and), (.str q_or), (.str q_q)], rfl, (by show (15 : Nat) ≤ 1000; decide), ?_⟩
    refine ⟨_, rfl, (by show (2 : Nat) < 4; decide), ?_⟩
    refine rs_at [some (.l x_store), some (.f x_many), some (.l [(.str q_a), (.str q_b), (.str q_c), (.str q_ab), (.str q_ba), (.str q_hold), (.str q_set), (.str q_x), (.str q_zzzzzzzz), (.str q_aa), (.str q_wire), (.str q_not), (.str q_and), (.str q_or), (.str q_q)]), none] rfl ?_
    refine rs_ret ?_
    refine rd_lc (Z := ((List D) × (List D))) [3] (fun i hi => hi) (all1 (hpv _ (by decide))) ?_
    refine ri_range1 ?_
    refine rd_var rfl ?_
    refine ⟨_, _, rfl, rfl, fun ds4 => ?_⟩
    refine ⟨fun z2 => [some (.l z2.2), some (.f x_many), some (.l z2.1), none], ([(.str q_a), (.str q_b), (.str q_c), (.str q_ab), (.str q_ba), (.str q_hold), (.str q_set), (.str q_x), (.str q_zzzzzzzz), (.str q_aa), (.str q_wire), (.str q_not), (.str q_and), (.str q_or), (.str q_q)], x_store), _, _, rfl, ⟨.inr rfl, ⟨.inr rfl, ⟨.inr rfl, ⟨.inl rfl, trivial⟩⟩⟩⟩, fun _ => (by first | exact trivial | rfl | exact ⟨rfl, rfl⟩), fun _ => (all1 rfl), rfl, fun z2 d1 _ _ => ?_, fun p3 => ?_⟩
    · refine rg_name (by show (3 : Nat) < 4; decide) rfl (hpv _ (by decide)) ?_
      refine rt_true rfl ?_
      refine ⟨_, .ok (none, z2), (if_pos rfl).symm, fun _ => ?_, fun h => by cases h⟩
      refine rd_popAt ?_
      refine rd_ali rfl ?_
      refine ⟨2, _, rfl, rfl, fun _ => ?_⟩
      refine rd_call hec hE ?_
      refine ra_cons ?_
      refine rd_ali rfl ?_
      intro _
      refine ra_cons ?_
      refine rd_cb1 o_len ?_
      refine rd_ali rfl ?_
      refine ⟨_, _, rfl, rfl, fun t7 => ?_⟩
      intro _
      refine ra_nil ?_
      refine ⟨(z2.2, t7), _, rfl, rfl, rfl, fun r6 => ?_⟩
      refine ⟨_, _, _, rfl, rfl, rfl, fun t5 => ?_⟩
      exact ⟨_, _, rfl, rfl, ⟨.inr rfl, ⟨.inr rfl, ⟨.inr rfl, ⟨.inl rfl, trivial⟩⟩⟩⟩⟩
    · refine ⟨_, rfl, ?_⟩
      exact ⟨_, rfl, rfl, ⟨rfl, by decide, trivial⟩⟩
theorem ok__law_rule (T : Tx K mg) : ∀ n_ : Nat, FnOk P w K mg base CX0 (n_ + 2) T.a__law_rule T.d__law_rule ["store", "names", "deep"] (spOf (A := (List D) × D × D) (R := D × (List D)) EC.ec (fun a => [.l a.1, .f a.2.1, .f a.2.2]) (fun a => m__law_rule n_ a.1 a.2.1 a.2.2) (fun r => .f r.1) (fun r => [some (.l r.2), none, none]))
  | 0 => by
    refine T.F__law_rule.ok sc__law_rule (fun vs H Q E h => ?_) (fun cdv A outer s H vs Q E hr h => ?_)
    · obtain ⟨a, G, w, _, _, hl, _⟩ := h; exact hl
    · obtain ⟨a, G, w, _, _, _, _, nf, _⟩ := h; exact absurd rfl nf
  | n_ + 1 => by
    refine T.F__law_rule.ok sc__law_rule (fun vs H Q E h => ?_) (fun cdv A outer s H vs Q E hr h => ?_)
    · obtain ⟨a, G, w, _, _, hl, _⟩ := h; exact hl
    · refine ⟨_, (pss_cons (ps_set (i := 3) sc__law_rule.nd rfl (by first | exact .inl rfl | exact .inr rfl) (pe_call (ok__law_take T) (hr.mono (by omega)) (by rfl) T.g__law_take T.F__law_take.kp T.b__law_take .nil (show Passes CX0 _ E from pass0) (pa_cons (pv 0) (pa_cons pe_int pa_nil)))) (pss_cons (ps_if (pw_or (pt_cmpR op_ltA (pv 2) pe_int (nomark _)) (pw_or1 (pt_cmpR op_ltA (pv 3) pe_int (nomark _)))).pt (pss_one (ps_ret (pe_tup (pa_cons pe_str (pa_cons (pe_ix (ix_anyK (Kf := K) (by rfl)) (pv 1) (pe_call (ok__law_take T) (hr.mono (by omega)) (by rfl) T.g__law_take T.F__law_take.kp T.b__law_take .nil (show Passes CX0 _ E from pass0) (pa_cons (pv 0) (pa_cons (pe_callB (call_lenK (Kf := K) (by rfl)) (by rfl) T.n_len PySem.boot_len (pa_cons (pv 1) pa_nil)) pa_nil))) (fun _ _ => rfl)) pa_nil))))) pss_nil) (pss_cons (ps_set (i := 4) sc__law_rule.nd rfl (by first | exact .inl rfl | exact .inr rfl) (pe_call (ok__law_rule T n_) (hr.mono (by omega)) (by rfl) T.g__law_rule T.F__law_rule.kp T.b__law_rule .nil (show Passes CX0 _ E from pass0) (pa_cons (pv 0) (pa_cons (pv 1) (pa_cons (pe_op op_sub (pv 2) pe_int) pa_nil))))) (pss_cons (ps_if (pt_cmpR op_ltA (pv 3) pe_int (nomark _)) (pss_one (ps_ret (pe_tup (pa_cons pe_str (pa_cons (pv 4) pa_nil))))) pss_nil) (pss_one (ps_ret (pe_tup (pa_cons (pe_ix (ix_anyK (Kf := K) (by rfl)) (pe_lst (pa_cons pe_str (pa_cons pe_str pa_nil))) (pe_op op_mod (pv 3) pe_int) (fun _ _ => rfl)) (pa_cons (pv 4) (pa_cons (pe_call (ok__law_rule T n_) (hr.mono (by omega)) (by rfl) T.g__law_rule T.F__law_rule.kp T.b__law_rule .nil (show Passes CX0 _ E from pass0) (pa_cons (pv 0) (pa_cons (pv 1) (pa_cons (pe_ix (ix_anyK (Kf := K) (by rfl)) (pe_lst (pa_cons (pe_op op_sub (pv 2) pe_int) (pa_cons pe_int pa_nil))) (pe_callTy call_intA (by rfl) T.n_int PyProof.Rows.boot_int (pa_cons (pe_cmpR op_gt (pv 2) pe_int (nomark _)) pa_nil)) (fun _ _ => rfl)) pa_nil)))) pa_nil)))))))))), ?_⟩
      refine fn_body (K := K) [0] (fun _ => by show (3 : Nat) ≤ 5; decide) (fun _ => by show ∀ k ∈ ([0] : List Nat), k < 3; decide) h (fun F a hec hE hK hpv => ?_)
      obtain ⟨x_store, x_names, x_deep⟩ := a
      show RS F [] [some (.l x_store), some (.f x_names), some (.f x_deep), none, none] (m__law_rule (n_ + 1) x_store x_names x_deep) _ _ _
      rw [m__law_rule]
      refine rs_seq ?_
      refine rs_set ?_ rfl (hpv _ (by decide))
      refine rd_call hec hE ?_
      refine ra_cons ?_
      refine rd_ali rfl ?_
      intro _
      refine ra_cons ?_
      refine rd_int ?_
      intro _
      refine ra_nil ?_
      refine ⟨(x_store, (.int 8)), _, rfl, rfl, rfl, fun r1 => ?_⟩
      refine ⟨_, rfl, (by show (3 : Nat) < 5; decide), ?_⟩
      refine rs_at [some (.l r1.2), some (.f x_names), some (.f x_deep), some (.f r1.1), none] rfl ?_
      refine rs_seq ?_
      refine rs_if ?_
      refine rt_or (Z := Unit) ?_
      refine rt_op2B o_lt ?_
      refine rd_var rfl ?_
      intro _
      refine rd_int ?_
      refine ⟨_, _, _, rfl, rfl, rfl, fun t3 => ?_⟩
      refine ⟨fun z => [some (.l r1.2), some (.f x_names), some (.f x_deep), some (.f r1.1), none], (), _, _, rfl, ⟨.inr rfl, ⟨.inr rfl, ⟨.inr rfl, ⟨.inr rfl, ⟨.inl rfl, trivial⟩⟩⟩⟩⟩, fun _ => ?_, fun p2 => ?_⟩
      · refine rt_op2B o_lt ?_
        refine rd_var rfl ?_
        intro _
        refine rd_int ?_
        refine ⟨_, _, _, rfl, rfl, rfl, fun t4 => ?_⟩
        exact ⟨_, rfl, ⟨.inr rfl, ⟨.inr rfl, ⟨.inr rfl, ⟨.inr rfl, ⟨.inl rfl, trivial⟩⟩⟩⟩⟩⟩
      · refine ⟨_, _, rfl, fun _ => ?_, fun _ => ?_⟩
        · refine rs_ret ?_
          refine rd_tup ?_
          refine ra_cons ?_
          refine rd_str e_q_wire ?_
          intro _
          refine ra_cons ?_
          refine rd_op2 o_ix ?_
          refine rd_var rfl ?_
          intro _
          refine rd_call hec hE ?_
          refine ra_cons ?_
          refine rd_ali rfl ?_
          intro _
          refine ra_cons ?_
          refine rd_cb1 o_len ?_
          refine rd_var rfl ?_
          refine ⟨_, _, rfl, rfl, fun t7 => ?_⟩
          intro _
          refine ra_nil ?_
          refine ⟨(r1.2, t7), _, rfl, rfl, rfl, fun r6 => ?_⟩
          refine ⟨_, _, _, rfl, rfl, rfl, fun t5 => ?_⟩
          intro _
          refine ra_nil ?_
          refine ⟨[(.str q_wire), t5], rfl, (by show (2 : Nat) ≤ 1000; decide), ?_⟩
          refine ⟨_, rfl, ?_⟩
          exact ⟨_, rfl, rfl, ⟨rfl, by decide, trivial⟩⟩
        · refine rs_next ?_
          refine rs_at [some (.l r1.2), some (.f x_names), some (.f x_deep), some (.f r1.1), none] rfl ?_
          refine rs_seq ?_
          refine rs_set ?_ rfl (hpv _ (by decide))
          refine rd_call hec hE ?_
          refine ra_cons ?_
          refine rd_ali rfl ?_
          intro _
          refine ra_cons ?_
          refine rd_var rfl ?_
          intro _
          refine ra_cons ?_
          refine rd_op2 o_sub ?_
          refine rd_var rfl ?_
          intro _
          refine rd_int ?_
          refine ⟨_, _, _, rfl, rfl, rfl, fun t9 => ?_⟩
          intro _
          refine ra_nil ?_
          refine ⟨(r1.2, x_names, t9), _, rfl, rfl, rfl, fun r8 => ?_⟩
          refine ⟨_, rfl, (by show (4 : Nat) < 5; decide), ?_⟩
          refine rs_at [some (.l r8.2), some (.f x_names), some (.f x_deep), some (.f r1.1), some (.f r8.1)] rfl ?_
          refine rs_seq ?_
          refine rs_if ?_
          refine rt_op2B o_lt ?_
          refine rd_var rfl ?_
          intro _
          refine rd_int ?_
          refine ⟨_, _, _, rfl, rfl, rfl, fun t10 => ?_⟩
          refine ⟨_, _, rfl, fun _ => ?_, fun _ => ?_⟩
          · refine rs_ret ?_
            refine rd_tup ?_
            refine ra_cons ?_
            refine rd_str e_q_not ?_
            intro _
            refine ra_cons ?_
            refine rd_var rfl ?_
            intro _
            refine ra_nil ?_
            refine ⟨[(.str q_not), r8.1], rfl, (by show (2 : Nat) ≤ 1000; decide), ?_⟩
            refine ⟨_, rfl, ?_⟩
            exact ⟨_, rfl, rfl, ⟨rfl, by decide, trivial⟩⟩
          · refine rs_next ?_
            refine rs_at [some (.l r8.2), some (.f x_names), some (.f x_deep), some (.f r1.1), some (.f r8.1)] rfl ?_
            refine rs_ret ?_
            refine rd_tup ?_
            refine ra_cons ?_
            refine rd_op2 o_ix ?_
            refine rd_lst ?_
            refine ra_cons ?_
            refine rd_str e_q_and ?_
            intro _
            refine ra_cons ?_
            refine rd_str e_q_or ?_
            intro _
            refine ra_nil ?_
            refine ⟨[(.str q_and), (.str q_or)], rfl, (by show (2 : Nat) ≤ 1000; decide), ?_⟩
            intro _
            refine rd_op2 o_mod ?_
            refine rd_var rfl ?_
            intro _
            refine rd_int ?_
            refine ⟨_, _, _, rfl, rfl, rfl, fun t12 => ?_⟩
            refine ⟨_, _, _, rfl, rfl, rfl, fun t11 => ?_⟩
            intro _
            refine ra_cons ?_
            refine rd_var rfl ?_
            intro _
            refine ra_cons ?_
            refine rd_call hec hE ?_
            refine ra_cons ?_
            refine rd_ali rfl ?_
            intro _
            refine ra_cons ?_
            refine rd_var rfl ?_
            intro _
            refine ra_cons ?_
            refine rd_op2 o_ix ?_
            refine rd_lst ?_
            refine ra_cons ?_
            refine rd_op2 o_sub ?_
            refine rd_var rfl ?_
            intro _
            refine rd_int ?_
            refine ⟨_, _, _, rfl, rfl, rfl, fun t15 => ?_⟩
            intro _
            refine ra_cons ?_
            refine rd_int ?_
            intro _
            refine ra_nil ?_
            refine ⟨[t15, (.int 1)], rfl, (by show (2 : Nat) ≤ 1000; decide), ?_⟩
            intro _
            refine rd_cb1 o_int ?_
            refine rd_op2B o_gt ?_
            refine rd_var rfl ?_
            intro _
            refine rd_int ?_
            refine ⟨_, _, _, rfl, rfl, rfl, fun t17 => ?_⟩
            refine ⟨_, _, rfl, rfl, fun t16 => ?_⟩
            refine ⟨_, _, _, rfl, rfl, rfl, fun t14 => ?_⟩
            intro _
            refine ra_nil ?_
            refine ⟨(r8.2, x_names, t14), _, rfl, rfl, rfl, fun r13 => ?_⟩
            intro _
            refine ra_nil ?_
            refine ⟨[t11, r8.1, r13.1], rfl, (by show (3 : Nat) ≤ 1000; decide), ?_⟩
            refine ⟨_, rfl, ?_⟩
            exact ⟨_, rfl, rfl, ⟨rfl, by decide, trivial⟩⟩
theorem ok__law_holder (T : Tx K mg) : FnOk P w K mg base CX0 1 T.a__law_holder T.d__law_holder ["one", "other", "own"] (spOf (A := D × D × D) (R := D) EC.ec (fun a => [.f a.1, .f a.2.1, .f a.2.2]) (fun a => m__law_holder a.1 a.2.1 a.2.2) (fun r => .f r) (fun r => [none, none, none])) := by
  refine T.F__law_holder.ok sc__law_holder (fun vs H Q E h => ?_) (fun cdv A outer s H vs Q E hr h => ?_)
  · obtain ⟨a, G, w, _, _, hl, _⟩ := h; exact hl
  · refine ⟨_, (pss_one (ps_ret (pe_tup (pa_cons pe_str (pa_cons (pe_tup (pa_cons pe_str (pa_cons (pv 0) (pa_cons (pv 1) pa_nil)))) (pa_cons (pe_tup (pa_cons pe_str (pa_cons (pv 2) (pa_cons (pe_tup (pa_cons pe_str (pa_cons (pv 0) (pa_cons (pv 1) pa_nil)))) pa_nil)))) pa_nil)))))), ?_⟩
    refine fn_body (K := K) [] (fun _ => by show (3 : Nat) ≤ 3; decide) (fun _ => by show ∀ k ∈ ([] : List Nat), k < 3; decide) h (fun F a hec hE hK hpv => ?_)
    obtain ⟨x_one, x_other, x_own⟩ := a
    show RS F [] [some (.f x_one), some (.f x_other), some (.f x_own)] (m__law_holder x_one x_other x_own) _ _ _
    unfold m__law_holder
    refine rs_ret ?_
    refine rd_tup ?_
    refine ra_cons ?_
    refine rd_str e_q_or ?_
    intro _
    refine ra_cons ?_
    refine rd_tup ?_
    refine ra_cons ?_
    refine rd_str e_q_and ?_
    intro _
    refine ra_cons ?_
    refine rd_var rfl ?_
    intro _
    refine ra_cons ?_
    refine rd_var rfl ?_
    intro _
    refine ra_nil ?_
    refine ⟨[(.str q_and), x_one, x_other], rfl, (by show (3 : Nat) ≤ 1000; decide), ?_⟩
    intro _
    refine ra_cons ?_
    refine rd_tup ?_
    refine ra_cons ?_
    refine rd_str e_q_and ?_
    intro _
    refine ra_cons ?_
    refine rd_var rfl ?_
    intro _
    refine ra_cons ?_
    refine rd_tup ?_
    refine ra_cons ?_
    refine rd_str e_q_or ?_
    intro _
    refine ra_cons ?_
    refine rd_var rfl ?_
    intro _
    refine ra_cons ?_
    refine rd_var rfl ?_
    intro _
    refine ra_nil ?_
    refine ⟨[(.str q_or), x_one, x_other], rfl, (by show (3 : Nat) ≤ 1000; decide), ?_⟩
    intro _
    refine ra_nil ?_
    refine ⟨[(.str q_and), x_own, (.tup [(.str q_or), x_one, x_other])], rfl, (by show (3 : Nat) ≤ 1000; decide), ?_⟩
    intro _
    refine ra_nil ?_
    refine ⟨[(.str q_or), (.tup [(.str q_and), x_one, x_other]), (.tup [(.str q_and), x_own, (.tup [(.str q_or), x_one, x_other])])], rfl, (by show (3 : Nat) ≤ 1000; decide), ?_⟩
    refine ⟨_, rfl, ?_⟩
    exact ⟨_, rfl, rfl, trivial⟩
theorem ok__law_known_rule (T : Tx K mg) : FnOk P w K mg base CX0 2 T.a__law_known_rule T.d__law_known_rule ["kind", "names", "at", "ins"] (spOf (A := D × D × D × D) (R := D) EC.ec (fun a => [.f a.1, .f a.2.1, .f a.2.2.1, .f a.2.2.2]) (fun a => m__law_known_rule a.1 a.2.1 a.2.2.1 a.2.2.2) (fun r => .f r) (fun r => [none, none, none, none])) := by
  refine T.F__law_known_rule.ok sc__law_known_rule (fun vs H Q E h => ?_) (fun cdv A outer s H vs Q E hr h => ?_)
  · obtain ⟨a, G, w, _, _, hl, _⟩ := h; exact hl
  · refine ⟨_, (pss_cons (ps_set (i := 4) sc__law_known_rule.nd rfl (by first | exact .inl rfl | exact .inr rfl) (pe_slice (sl_listK (Kf := K) (by rfl)) (pv 1) (po_some (pv 3)) po_none)) (pss_cons (ps_set (i := 5) sc__law_known_rule.nd rfl (by first | exact .inl rfl | exact .inr rfl) (pe_tup (pa_cons pe_str (pa_cons (pe_ix (ix_anyK (Kf := K) (by rfl)) (pv 4) (pv 2) (fun _ _ => rfl)) pa_nil)))) (pss_cons (ps_set (i := 6) sc__law_known_rule.nd rfl (by first | exact .inl rfl | exact .inr rfl) (pe_tup (pa_cons pe_str (pa_cons (pe_ix (ix_anyK (Kf := K) (by rfl)) (pv 4) (pe_op op_sub (pv 2) pe_int) (fun _ _ => rfl)) pa_nil)))) (pss_cons (ps_set (i := 7) sc__law_known_rule.nd rfl (by first | exact .inl rfl | exact .inr rfl) (pe_tup (pa_cons pe_str (pa_cons (pe_ix (ix_anyK (Kf := K) (by rfl)) (pv 1) (pe_op op_mod (pv 2) (pe_callB (call_lenK (Kf := K) (by rfl)) (by rfl) T.n_len PySem.boot_len (pa_cons (pv 1) pa_nil))) (fun _ _ => rfl)) pa_nil)))) (pss_cons (ps_set (i := 8) sc__law_known_rule.nd rfl (by first | exact .inl rfl | exact .inr rfl) (pe_tup (pa_cons pe_str (pa_cons (pe_ix (ix_anyK (Kf := K) (by rfl)) (pv 4) (pe_op op_mod (pe_op op_addA (pv 2) pe_int) (pe_callB (call_lenK (Kf := K) (by rfl)) (by rfl) T.n_len PySem.boot_len (pa_cons (pv 4) pa_nil))) (fun _ _ => rfl)) pa_nil)))) (pss_cons (ps_if (pt_cmpR (op_eqM (hu_64 hr)) (pv 0) pe_int (nomark _)) (pss_one (ps_ret (pe_tup (pa_cons pe_str (pa_cons (pv 6) pa_nil))))) pss_nil) (pss_cons (ps_if (pt_cmpR (op_eqM (hu_64 hr)) (pv 0) pe_int (nomark _)) (pss_one (ps_ret (pe_tup (pa_cons pe_str (pa_cons (pe_tup (pa_cons pe_str (pa_cons (pv 6) (pa_cons (pv 7) pa_nil)))) pa_nil))))) pss_nil) (pss_cons (ps_if (pt_cmpR (op_eqM (hu_64 hr)) (pv 0) pe_int (nomark _)) (pss_one (ps_ret (pe_call (ok__law_holder T) (hr.mono (by decide)) (by rfl) T.g__law_holder T.F__law_holder.kp T.b__law_holder .nil (show Passes CX0 _ E from pass0) (pa_cons (pv 7) (pa_cons (pv 6) (pa_cons (pv 5) pa_nil)))))) pss_nil) (pss_one (ps_ret (pe_call (ok__law_holder T) (hr.mono (by decide)) (by rfl) T.g__law_holder T.F__law_holder.kp T.b__law_holder .nil (show Passes CX0 _ E from pass0) (pa_cons (pv 6) (pa_cons (pe_tup (pa_cons pe_str (pa_cons (pv 8) pa_nil))) (pa_cons (pv 5) pa_nil)))))))))))))), ?_⟩
    refine fn_body (K := K) [] (fun _ => by show (4 : Nat) ≤ 9; decide) (fun _ => by show ∀ k ∈ ([] : List Nat), k < 4; decide) h (fun F a hec hE hK hpv => ?_)
    obtain ⟨x_kind, x_names, x_at, x_ins⟩ := a
    show RS F [] [some (.f x_kind), some (.f x_names), some (.f x_at), some (.f x_ins), none, none, none, none, none] (m__law_known_rule x_kind x_names x_at x_ins) _ _ _
    unfold m__law_known_rule
    refine rs_seq ?_
    refine rs_set ?_ rfl (hpv _ (by decide))
    refine rd_fz ?_
    refine rd_slL ?_
    refine rd_var rfl ?_
    intro _
    refine ro_some ?_
    refine rd_var rfl ?_
    refine ⟨_, _, rfl, rfl, fun t2 => ?_⟩
    refine ro_none ?_
    refine ⟨_, _, rfl, rfl, fun t1 => ?_⟩
    refine ⟨_, rfl, ?_⟩
    refine ⟨_, rfl, (by show (4 : Nat) < 9; decide), ?_⟩
    refine rs_at [some (.f x_kind), some (.f x_names), some (.f x_at), some (.f x_ins), some (.f (.lst t1)), none, none, none, none] rfl ?_
    refine rs_seq ?_
    refine rs_set ?_ rfl (hpv _ (by decide))
    refine rd_tup ?_
    refine ra_cons ?_
    refine rd_str e_q_wire ?_
    intro _
    refine ra_cons ?_
    refine rd_op2 o_ix ?_
    refine rd_var rfl ?_
    intro _
    refine rd_var rfl ?_
    refine ⟨_, _, _, rfl, rfl, rfl, fun t3 => ?_⟩
    intro _
    refine ra_nil ?_
    refine ⟨[(.str q_wire), t3], rfl, (by show (2 : Nat) ≤ 1000; decide), ?_⟩
    refine ⟨_, rfl, (by show (5 : Nat) < 9; decide), ?_⟩
    refine rs_at [some (.f x_kind), some (.f x_names), some (.f x_at), some (.f x_ins), some (.f (.lst t1)), some (.f (.tup [(.str q_wire), t3])), none, none, none] rfl ?_
    refine rs_seq ?_
    refine rs_set ?_ rfl (hpv _ (by decide))
    refine rd_tup ?_
    refine ra_cons ?_
    refine rd_str e_q_wire ?_
    intro _
    refine ra_cons ?_
    refine rd_op2 o_ix ?_
    refine rd_var rfl ?_
    intro _
    refine rd_op2 o_sub ?_
    refine rd_var rfl ?_
    intro _
    refine rd_int ?_
    refine ⟨_, _, _, rfl, rfl, rfl, fun t5 => ?_⟩
    refine ⟨_, _, _, rfl, rfl, rfl, fun t4 => ?_⟩
    intro _
    refine ra_nil ?_
    refine ⟨[(.str q_wire), t4], rfl, (by show (2 : Nat) ≤ 1000; decide), ?_⟩
    refine ⟨_, rfl, (by show (6 : Nat) < 9; decide), ?_⟩
    refine rs_at [some (.f x_kind), some (.f x_names), some (.f x_at), some (.f x_ins), some (.f (.lst t1)), some (.f (.tup [(.str q_wire), t3])), some (.f (.tup [(.str q_wire), t4])), none, none] rfl ?_
    refine rs_seq ?_
    refine rs_set ?_ rfl (hpv _ (by decide))
    refine rd_tup ?_
    refine ra_cons ?_
    refine rd_str e_q_wire ?_
    intro _
    refine ra_cons ?_
    refine rd_op2 o_ix ?_
    refine rd_var rfl ?_
    intro _
    refine rd_op2 o_mod ?_
    refine rd_var rfl ?_
    intro _
    refine rd_cb1 o_len ?_
    refine rd_var rfl ?_
    refine ⟨_, _, rfl, rfl, fun t8 => ?_⟩
    refine ⟨_, _, _, rfl, rfl, rfl, fun t7 => ?_⟩
    refine ⟨_, _, _, rfl, rfl, rfl, fun t6 => ?_⟩
    intro _
    refine ra_nil ?_
    refine ⟨[(.str q_wire), t6], rfl, (by show (2 : Nat) ≤ 1000; decide), ?_⟩
    refine ⟨_, rfl, (by show (7 : Nat) < 9; decide), ?_⟩
    refine rs_at [some (.f x_kind), some (.f x_names), some (.f x_at), some (.f x_ins), some (.f (.lst t1)), some (.f (.tup [(.str q_wire), t3])), some (.f (.tup [(.str q_wire), t4])), some (.f (.tup [(.str q_wire), t6])), none] rfl ?_
    refine rs_seq ?_
    refine rs_set ?_ rfl (hpv _ (by decide))
    refine rd_tup ?_
    refine ra_cons ?_
    refine rd_str e_q_wire ?_
    intro _
    refine ra_cons ?_
    refine rd_op2 o_ix ?_
    refine rd_var rfl ?_
    intro _
    refine rd_op2 o_mod ?_
    refine rd_op2 o_add ?_
    refine rd_var rfl ?_
    intro _
    refine rd_int ?_
    refine ⟨_, _, _, rfl, rfl, rfl, fun t11 => ?_⟩
    intro _
    refine rd_cb1 o_len ?_
    refine rd_var rfl ?_
    refine ⟨_, _, rfl, rfl, fun t12 => ?_⟩
    refine ⟨_, _, _, rfl, rfl, rfl, fun t10 => ?_⟩
    refine ⟨_, _, _, rfl, rfl, rfl, fun t9 => ?_⟩
    intro _
    refine ra_nil ?_
    refine ⟨[(.str q_wire), t9], rfl, (by show (2 : Nat) ≤ 1000; decide), ?_⟩
    refine ⟨_, rfl, (by show (8 : Nat) < 9; decide), ?_⟩
    refine rs_at [some (.f x_kind), some (.f x_names), some (.f x_at), some (.f x_ins), some (.f (.lst t1)), some (.f (.tup [(.str q_wire), t3])), some (.f (.tup [(.str q_wire), t4])), some (.f (.tup [(.str q_wire), t6])), some (.f (.tup [(.str q_wire), t9]))] rfl ?_
    refine rs_seq ?_
    refine rs_if ?_
    refine rt_op2B o_eq ?_
    refine rd_var rfl ?_
    intro _
    refine rd_int ?_
    refine ⟨_, _, _, rfl, rfl, rfl, fun t13 => ?_⟩
    refine ⟨_, _, rfl, fun _ => ?_, fun _ => ?_⟩
    · refine rs_ret ?_
      refine rd_tup ?_
      refine ra_cons ?_
      refine rd_str e_q_not ?_
      intro _
      refine ra_cons ?_
      refine rd_var rfl ?_
      intro _
      refine ra_nil ?_
      refine ⟨[(.str q_not), (.tup [(.str q_wire), t4])], rfl, (by show (2 : Nat) ≤ 1000; decide), ?_⟩
      refine ⟨_, rfl, ?_⟩
      exact ⟨_, rfl, rfl, trivial⟩
    · refine rs_next ?_
      refine rs_at [some (.f x_kind), some (.f x_names), some (.f x_at), some (.f x_ins), some (.f (.lst t1)), some (.f (.tup [(.str q_wire), t3])), some (.f (.tup [(.str q_wire), t4])), some (.f (.tup [(.str q_wire), t6])), some (.f (.tup [(.str q_wire), t9]))] rfl ?_
      refine rs_seq ?_
      refine rs_if ?_
      refine rt_op2B o_eq ?_
      refine rd_var rfl ?_
      intro _
      refine rd_int ?_
      refine ⟨_, _, _, rfl, rfl, rfl, fun t14 => ?_⟩
      refine ⟨_, _, rfl, fun _ => ?_, fun _ => ?_⟩
      · refine rs_ret ?_
        refine rd_tup ?_
        refine ra_cons ?_
        refine rd_str e_q_not ?_
        intro _
        refine ra_cons ?_
        refine rd_tup ?_
        refine ra_cons ?_
        refine rd_str e_q_or ?_
        intro _
        refine ra_cons ?_
        refine rd_var rfl ?_
        intro _
        refine ra_cons ?_
        refine rd_var rfl ?_
        intro _
        refine ra_nil ?_
        refine ⟨[(.str q_or), (.tup [(.str q_wire), t4]), (.tup [(.str q_wire), t6])], rfl, (by show (3 : Nat) ≤ 1000; decide), ?_⟩
        intro _
        refine ra_nil ?_
        refine ⟨[(.str q_not), (.tup [(.str q_or), (.tup [(.str q_wire), t4]), (.tup [(.str q_wire), t6])])], rfl, (by show (2 : Nat) ≤ 1000; decide), ?_⟩
        refine ⟨_, rfl, ?_⟩
        exact ⟨_, rfl, rfl, trivial⟩
      · refine rs_next ?_
        refine rs_at [some (.f x_kind), some (.f x_names), some (.f x_at), some (.f x_ins), some (.f (.lst t1)), some (.f (.tup [(.str q_wire), t3])), some (.f (.tup [(.str q_wire), t4])), some (.f (.tup [(.str q_wire), t6])), some (.f (.tup [(.str q_wire), t9]))] rfl ?_
        refine rs_seq ?_
        refine rs_if ?_
        refine rt_op2B o_eq ?_
        refine rd_var rfl ?_
        intro _
        refine rd_int ?_
        refine ⟨_, _, _, rfl, rfl, rfl, fun t15 => ?_⟩
        refine ⟨_, _, rfl, fun _ => ?_, fun _ => ?_⟩
        · refine rs_ret ?_
          refine rd_call hec hE ?_
          refine ra_cons ?_
          refine rd_var rfl ?_
          intro _
          refine ra_cons ?_
          refine rd_var rfl ?_
          intro _
          refine ra_cons ?_
          refine rd_var rfl ?_
          intro _
          refine ra_nil ?_
          refine ⟨((.tup [(.str q_wire), t6]), (.tup [(.str q_wire), t4]), (.tup [(.str q_wire), t3])), _, rfl, rfl, rfl, fun r16 => ?_⟩
          refine ⟨_, rfl, ?_⟩
          exact ⟨_, rfl, rfl, trivial⟩
        · refine rs_next ?_
          refine rs_at [some (.f x_kind), some (.f x_names), some (.f x_at), some (.f x_ins), some (.f (.lst t1)), some (.f (.tup [(.str q_wire), t3])), some (.f (.tup [(.str q_wire), t4])), some (.f (.tup [(.str q_wire), t6])), some (.f (.tup [(.str q_wire), t9]))] rfl ?_
          refine rs_ret ?_
          refine rd_call hec hE ?_
          refine ra_cons ?_
          refine rd_var rfl ?_
          intro _
          refine ra_cons ?_
          refine rd_tup ?_
          refine ra_cons ?_
          refine rd_str e_q_not ?_
          intro _
          refine ra_cons ?_
          refine rd_var rfl ?_
          intro _
          refine ra_nil ?_
          refine ⟨[(.str q_not), (.tup [(.str q_wire), t9])], rfl, (by show (2 : Nat) ≤ 1000; decide), ?_⟩
          intro _
          refine ra_cons ?_
          refine rd_var rfl ?_
          intro _
          refine ra_nil ?_
          refine ⟨((.tup [(.str q_wire), t4]), (.tup [(.str q_not), (.tup [(.str q_wire), t9])]), (.tup [(.str q_wire), t3])), _, rfl, rfl, rfl, fun r17 => ?_⟩
          refine ⟨_, rfl, ?_⟩
          exact ⟨_, rfl, rfl, trivial⟩
theorem ok__law_net (T : Tx K mg) : FnOk P w K mg base CX0 27 T.a__law_net T.d__law_net ["store", "most"] (spOf (A := (List D) × D) (R := D × (List D)) EC.ec (fun a => [.l a.1, .f a.2]) (fun a => m__law_net a.1 a.2) (fun r => .f r.1) (fun r => [some (.l r.2), none])) := by
  refine T.F__law_net.ok sc__law_net (fun vs H Q E h => ?_) (fun cdv A outer s H vs Q E hr h => ?_)
  · obtain ⟨a, G, w, _, _, hl, _⟩ := h; exact hl
  · refine ⟨_, (pss_cons (ps_set (i := 2) sc__law_net.nd rfl (by first | exact .inl rfl | exact .inr rfl) (pe_call (ok__law_take T) (hr.mono (by decide)) (by rfl) T.g__law_take T.F__law_take.kp T.b__law_take .nil (show Passes CX0 _ E from pass0) (pa_cons (pv 0) (pa_cons pe_int pa_nil)))) (pss_cons (ps_set (i := 3) sc__law_net.nd rfl (by first | exact .inl rfl | exact .inr rfl) (pe_op op_addA pe_int (pe_call (ok__law_take T) (hr.mono (by decide)) (by rfl) T.g__law_take T.F__law_take.kp T.b__law_take .nil (show Passes CX0 _ E from pass0) (pa_cons (pv 0) (pa_cons (pv 1) pa_nil))))) (pss_cons (ps_set (i := 4) sc__law_net.nd rfl (by first | exact .inl rfl | exact .inr rfl) (pe_call (ok__law_names T) (hr.mono (by decide)) (by rfl) T.g__law_names T.F__law_names.kp T.b__law_names .nil (show Passes CX0 _ E from pass0) (pa_cons (pv 0) (pa_cons (pe_op op_addA (pv 2) (pv 3)) pa_nil)))) (pss_cons (ps_set (i := 5) sc__law_net.nd rfl (by first | exact .inl rfl | exact .inr rfl) (pe_call (ok__law_take T) (hr.mono (by decide)) (by rfl) T.g__law_take T.F__law_take.kp T.b__law_take .nil (show Passes CX0 _ E from pass0) (pa_cons (pv 0) (pa_cons pe_int pa_nil)))) (pss_cons (ps_set (i := 6) sc__law_net.nd rfl (by first | exact .inl rfl | exact .inr rfl) (pe_ix (ix_anyK (Kf := K) (by rfl)) (pe_lst (pa_cons pe_int (pa_cons pe_int (pa_cons pe_int (pa_cons pe_int (pa_cons pe_int (pa_cons pe_int (pa_cons pe_int (pa_cons pe_int pa_nil))))))))) (pe_call (ok__law_take T) (hr.mono (by decide)) (by rfl) T.g__law_take T.F__law_take.kp T.b__law_take .nil (show Passes CX0 _ E from pass0) (pa_cons (pv 0) (pa_cons pe_int pa_nil))) (fun _ _ => rfl))) (pss_cons (ps_if (pt_cmpR op_gt (pv 3) pe_int (nomark _)) (pss_one (ps_set (i := 6) sc__law_net.nd rfl (by first | exact .inl rfl | exact .inr rfl) (pe_callB (call_min2 rfl) (by rfl) T.n_min PyProof.Rows.boot_min (pa_cons (pv 6) (pa_cons pe_int pa_nil))))) pss_nil) (pss_cons (ps_set (i := 7) sc__law_net.nd rfl (by first | exact .inl rfl | exact .inr rfl) (pe_lst pa_nil)) (pss_cons (ps_for PassesOwn.never rfl (pi_range1 (by rfl) T.n_range (pa_cons (pv 3) pa_nil)) (pg_name (i := 8) sc__law_net.nd rfl (by first | exact .inl rfl | exact .inr rfl)) (pss_cons (ps_set (i := 9) sc__law_net.nd rfl (by first | exact .inl rfl | exact .inr rfl) (pe_call (ok__law_rule T 24) (hr.mono (by decide)) (by rfl) T.g__law_rule T.F__law_rule.kp T.b__law_rule .nil (show Passes CX0 _ E from pass0) (pa_cons (pv 0) (pa_cons (pv 4) (pa_cons (pv 6) pa_nil))))) (pss_cons (ps_if (pw_and (pt_cmpR op_ltA (pv 5) pe_int (nomark _)) (pw_and1 (pt_cmpR op_gt (pe_call (ok__law_take T) (hr.mono (by decide)) (by rfl) T.g__law_take T.F__law_take.kp T.b__law_take .nil (show Passes CX0 _ E from pass0) (pa_cons (pv 0) (pa_cons pe_int pa_nil))) pe_int (nomark _)))).pt (pss_one (ps_set (i := 9) sc__law_net.nd rfl (by first | exact .inl rfl | exact .inr rfl) (pe_call (ok__law_known_rule T) (hr.mono (by decide)) (by rfl) T.g__law_known_rule T.F__law_known_rule.kp T.b__law_known_rule .nil (show Passes CX0 _ E from pass0) (pa_cons (pv 5) (pa_cons (pv 4) (pa_cons (pv 8) (pa_cons (pv 2) pa_nil))))))) pss_nil) (pss_one (ps_expr (pe_bmK (Kf := K) (by rfl) PySem.F.plainAttrs_list PySem.F.slot_list_append PySem.F.type_list_append mt_append (pv 7) (pa_cons (pe_tup (pa_cons (pe_ix (ix_anyK (Kf := K) (by rfl)) (pv 4) (pe_op op_addA (pv 2) (pv 8)) (fun _ _ => rfl)) (pa_cons (pv 9) pa_nil))) pa_nil))))))) (pss_one (ps_ret (pe_tup (pa_cons (pe_slice (sl_listK (Kf := K) (by rfl)) (pv 4) po_none (po_some (pv 2))) (pa_cons (pv 7) pa_nil))))))))))))), ?_⟩
    refine fn_body (K := K) [0] (fun _ => by show (2 : Nat) ≤ 10; decide) (fun _ => by show ∀ k ∈ ([0] : List Nat), k < 2; decide) h (fun F a hec hE hK hpv => ?_)
    obtain ⟨x_store, x_most⟩ := a
    show RS F [] [some (.l x_store), some (.f x_most), none, none, none, none, none, none, none, none] (m__law_net x_store x_most) _ _ _
    unfold m__law_net
    refine rs_seq ?_
    refine rs_set ?_ rfl (hpv _ (by decide))
    refine rd_call hec hE ?_
    refine ra_cons ?_
    refine rd_ali rfl ?_
    intro _
    refine ra_cons ?_
    refine rd_int ?_
    intro _
    refine ra_nil ?_
    refine ⟨(x_store, (.int 5)), _, rfl, rfl, rfl, fun r1 => ?_⟩
    refine ⟨_, rfl, (by show (2 : Nat) < 10; decide), ?_⟩
    refine rs_at [some (.l r1.2), some (.f x_most), some (.f r1.1), none, none, none, none, none, none, none] rfl ?_
    refine rs_seq ?_
    refine rs_set ?_ rfl (hpv _ (by decide))
    refine rd_op2 o_add ?_
    refine rd_int ?_
    intro _
    refine rd_call hec hE ?_
    refine ra_cons ?_
    refine rd_ali rfl ?_
    intro _
    refine ra_cons ?_
    refine rd_var rfl ?_
    intro _
    refine ra_nil ?_
    refine ⟨(r1.2, x_most), _, rfl, rfl, rfl, fun r3 => ?_⟩
    refine ⟨_, _, _, rfl, rfl, rfl, fun t2 => ?_⟩
    refine ⟨_, rfl, (by show (3 : Nat) < 10; decide), ?_⟩
    refine rs_at [some (.l r3.2), some (.f x_most), some (.f r1.1), some (.f t2), none, none, none, none, none, none] rfl ?_
    refine rs_seq ?_
    refine rs_set ?_ rfl (hpv _ (by decide))
    refine rd_fz ?_
    refine rd_call hec hE ?_
    refine ra_cons ?_
    refine rd_ali rfl ?_
    intro _
    refine ra_cons ?_
    refine rd_op2 o_add ?_
    refine rd_var rfl ?_
    intro _
    refine rd_var rfl ?_
    refine ⟨_, _, _, rfl, rfl, rfl, fun t5 => ?_⟩
    intro _
    refine ra_nil ?_
    refine ⟨(r3.2, t5), _, rfl, rfl, rfl, fun r4 => ?_⟩
    refine ⟨_, rfl, ?_⟩
    refine ⟨_, rfl, (by show (4 : Nat) < 10; decide), ?_⟩
    refine rs_at [some (.l r4.2), some (.f x_most), some (.f r1.1), some (.f t2), some (.f (.lst r4.1)), none, none, none, none, none] rfl ?_
    refine rs_seq ?_
    refine rs_set ?_ rfl (hpv _ (by decide))
    refine rd_call hec hE ?_
    refine ra_cons ?_
    refine rd_ali rfl ?_
    intro _
    refine ra_cons ?_
    refine rd_int ?_
    intro _
    refine ra_nil ?_
    refine ⟨(r4.2, (.int 12)), _, rfl, rfl, rfl, fun r6 => ?_⟩
    refine ⟨_, rfl, (by show (5 : Nat) < 10; decide), ?_⟩
    refine rs_at [some (.l r6.2), some (.f x_most), some (.f r1.1), some (.f t2), some (.f (.lst r4.1)), some (.f r6.1), none, none, none, none] rfl ?_
    refine rs_seq ?_
    refine rs_set ?_ rfl (hpv _ (by decide))
    refine rd_op2 o_ix ?_
    refine rd_lst ?_
    refine ra_cons ?_
    refine rd_int ?_
    intro _
    refine ra_cons ?_
    refine rd_int ?_
    intro _
    refine ra_cons ?_
    refine rd_int ?_
    intro _
    refine ra_cons ?_
    refine rd_int ?_
    intro _
    refine ra_cons ?_
    refine rd_int ?_
    intro _
    refine ra_cons ?_
    refine rd_int ?_
    intro _
    refine ra_cons ?_
    refine rd_int ?_
    intro _
    refine ra_cons ?_
    refine rd_int ?_
    intro _
    refine ra_nil ?_
    refine ⟨[(.int 1), (.int 2), (.int 3), (.int 4), (.int 5), (.int 6), (.int 6), (.int 10)], rfl, (by show (8 : Nat) ≤ 1000; decide), ?_⟩
    intro _
    refine rd_call hec hE ?_
    refine ra_cons ?_
    refine rd_ali rfl ?_
    intro _
    refine ra_cons ?_
    refine rd_int ?_
    intro _
    refine ra_nil ?_
    refine ⟨(r6.2, (.int 8)), _, rfl, rfl, rfl, fun r8 => ?_⟩
    refine ⟨_, _, _, rfl, rfl, rfl, fun t7 => ?_⟩
    refine ⟨_, rfl, (by show (6 : Nat) < 10; decide), ?_⟩
    refine rs_at [some (.l r8.2), some (.f x_most), some (.f r1.1), some (.f t2), some (.f (.lst r4.1)), some (.f r6.1), some (.f t7), none, none, none] rfl ?_
    refine rs_seq ?_
    refine rs_join (Z := D) (fun z11 => [some (.l r8.2), some (.f x_most), some (.f r1.1), some (.f t2), some (.f (.lst r4.1)), some (.f r6.1), some (.f z11), none, none, none]) _ _ rfl ?_ (fun z11 => ?_)
    · refine rs_if ?_
      refine rt_op2B o_gt ?_
      refine rd_var rfl ?_
      intro _
      refine rd_int ?_
      refine ⟨_, _, _, rfl, rfl, rfl, fun t12 => ?_⟩
      refine ⟨_, _, rfl, fun _ => ?_, fun _ => ?_⟩
      · refine rs_set ?_ rfl (hpv _ (by decide))
        refine rd_cb2 o_min ?_
        refine rd_var rfl ?_
        intro _
        refine rd_int ?_
        refine ⟨_, _, _, rfl, rfl, rfl, fun t13 => ?_⟩
        refine ⟨_, rfl, (by show (6 : Nat) < 10; decide), ?_⟩
        exact ⟨_, rfl, ⟨.inr rfl, ⟨.inr rfl, ⟨.inr rfl, ⟨.inr rfl, ⟨.inr rfl, ⟨.inr rfl, ⟨.inr rfl, ⟨.inl rfl, ⟨.inl rfl, ⟨.inl rfl, trivial⟩⟩⟩⟩⟩⟩⟩⟩⟩⟩⟩
      · refine rs_next ?_
        exact ⟨_, rfl, ⟨.inr rfl, ⟨.inr rfl, ⟨.inr rfl, ⟨.inr rfl, ⟨.inr rfl, ⟨.inr rfl, ⟨.inr rfl, ⟨.inl rfl, ⟨.inl rfl, ⟨.inl rfl, trivial⟩⟩⟩⟩⟩⟩⟩⟩⟩⟩⟩
    · refine rs_at [some (.l r8.2), some (.f x_most), some (.f r1.1), some (.f t2), some (.f (.lst r4.1)), some (.f r6.1), some (.f z11), none, none, none] rfl ?_
      refine rs_seq ?_
      refine rs_set ?_ rfl (hpv _ (by decide))
      refine rd_lst ?_
      refine ra_nil ?_
      refine ⟨[], rfl, (by show (0 : Nat) ≤ 1000; decide), ?_⟩
      refine ⟨_, rfl, (by show (7 : Nat) < 10; decide), ?_⟩
      refine rs_at [some (.l r8.2), some (.f x_most), some (.f r1.1), some (.f t2), some (.f (.lst r4.1)), some (.f r6.1), some (.f z11), some (.l []), none, none] rfl ?_
      refine rs_seq ?_
      refine rs_forN (Z := ((List D) × (List D))) [8] ?_
      refine ri_range1 ?_
      refine rd_var rfl ?_
      refine ⟨_, _, rfl, rfl, fun ds16 => ?_⟩
      refine ⟨fun z15 => [some (.l z15.1), some (.f x_most), some (.f r1.1), some (.f t2), some (.f (.lst r4.1)), some (.f r6.1), some (.f z11), some (.l z15.2), none, none], _, _, _, rfl, ⟨.inr rfl, ⟨.inr rfl, ⟨.inr rfl, ⟨.inr rfl, ⟨.inr rfl, ⟨.inr rfl, ⟨.inr rfl, ⟨.inr rfl, ⟨.inl rfl, ⟨.inl rfl, trivial⟩⟩⟩⟩⟩⟩⟩⟩⟩⟩, fun _ => (by first | exact trivial | rfl | exact ⟨rfl, rfl⟩), fun z15 d14 => ?_, fun z15 => ?_⟩
      · refine rg_name (by show (8 : Nat) < 10; decide) rfl (hpv _ (by decide)) ?_
        refine rs_at [some (.l z15.1), some (.f x_most), some (.f r1.1), some (.f t2), some (.f (.lst r4.1)), some (.f r6.1), some (.f z11), some (.l z15.2), some (.f d14), none] rfl ?_
        refine rs_seq ?_
        refine rs_set ?_ rfl (hpv _ (by decide))
        refine rd_call hec hE ?_
        refine ra_cons ?_
        refine rd_ali rfl ?_
        intro _
        refine ra_cons ?_
        refine rd_var rfl ?_
        intro _
        refine ra_cons ?_
        refine rd_var rfl ?_
        intro _
        refine ra_nil ?_
        refine ⟨(z15.1, (.lst r4.1), z11), _, rfl, rfl, rfl, fun r17 => ?_⟩
        refine ⟨_, rfl, (by show (9 : Nat) < 10; decide), ?_⟩
        refine rs_at [some (.l r17.2), some (.f x_most), some (.f r1.1), some (.f t2), some (.f (.lst r4.1)), some (.f r6.1), some (.f z11), some (.l z15.2), some (.f d14), some (.f r17.1)] rfl ?_
        refine rs_seq ?_
        refine rs_join (Z := (D × (List D))) (fun z23 => [some (.l z23.2), some (.f x_most), some (.f r1.1), some (.f t2), some (.f (.lst r4.1)), some (.f r6.1), some (.f z11), some (.l z15.2), some (.f d14), some (.f z23.1)]) _ _ rfl ?_ (fun z23 => ?_)
        · refine rs_if ?_
          refine rt_and (Z := (List D)) ?_
          refine rt_op2B o_lt ?_
          refine rd_var rfl ?_
          intro _
          refine rd_int ?_
          refine ⟨_, _, _, rfl, rfl, rfl, fun t25 => ?_⟩
          refine ⟨fun z => [some (.l z), some (.f x_most), some (.f r1.1), some (.f t2), some (.f (.lst r4.1)), some (.f r6.1), some (.f z11), some (.l z15.2), some (.f d14), some (.f r17.1)], r17.2, _, _, rfl, ⟨.inr rfl, ⟨.inr rfl, ⟨.inr rfl, ⟨.inr rfl, ⟨.inr rfl, ⟨.inr rfl, ⟨.inr rfl, ⟨.inr rfl, ⟨.inr rfl, ⟨.inr rfl, trivial⟩⟩⟩⟩⟩⟩⟩⟩⟩⟩, fun _ => ?_, fun p24 => ?_⟩
          · refine rt_op2B o_gt ?_
            refine rd_call hec hE ?_
            refine ra_cons ?_
            refine rd_ali rfl ?_
            intro _
            refine ra_cons ?_
            refine rd_int ?_
            intro _
            refine ra_nil ?_
            refine ⟨(r17.2, (.int 8)), _, rfl, rfl, rfl, fun r27 => ?_⟩
            intro _
            refine rd_int ?_
            refine ⟨_, _, _, rfl, rfl, rfl, fun t26 => ?_⟩
            exact ⟨_, rfl, ⟨.inr rfl, ⟨.inr rfl, ⟨.inr rfl, ⟨.inr rfl, ⟨.inr rfl, ⟨.inr rfl, ⟨.inr rfl, ⟨.inr rfl, ⟨.inr rfl, ⟨.inr rfl, trivial⟩⟩⟩⟩⟩⟩⟩⟩⟩⟩⟩
          · refine ⟨_, _, rfl, fun _ => ?_, fun _ => ?_⟩
            · refine rs_set ?_ rfl (hpv _ (by decide))
              refine rd_call hec hE ?_
              refine ra_cons ?_
              refine rd_var rfl ?_
              intro _
              refine ra_cons ?_
              refine rd_var rfl ?_
              intro _
              refine ra_cons ?_
              refine rd_var rfl ?_
              intro _
              refine ra_cons ?_
              refine rd_var rfl ?_
              intro _
              refine ra_nil ?_
              refine ⟨(r6.1, (.lst r4.1), d14, r1.1), _, rfl, rfl, rfl, fun r28 => ?_⟩
              refine ⟨_, rfl, (by show (9 : Nat) < 10; decide), ?_⟩
              exact ⟨_, rfl, ⟨.inr rfl, ⟨.inr rfl, ⟨.inr rfl, ⟨.inr rfl, ⟨.inr rfl, ⟨.inr rfl, ⟨.inr rfl, ⟨.inr rfl, ⟨.inr rfl, ⟨.inr rfl, trivial⟩⟩⟩⟩⟩⟩⟩⟩⟩⟩⟩
            · refine rs_next ?_
              exact ⟨_, rfl, ⟨.inr rfl, ⟨.inr rfl, ⟨.inr rfl, ⟨.inr rfl, ⟨.inr rfl, ⟨.inr rfl, ⟨.inr rfl, ⟨.inr rfl, ⟨.inr rfl, ⟨.inr rfl, trivial⟩⟩⟩⟩⟩⟩⟩⟩⟩⟩⟩
        · refine rs_at [some (.l z23.2), some (.f x_most), some (.f r1.1), some (.f t2), some (.f (.lst r4.1)), some (.f r6.1), some (.f z11), some (.l z15.2), some (.f d14), some (.f z23.1)] rfl ?_
          refine rs_drop ?_
          refine rd_append ?_
          refine rd_ali rfl ?_
          refine ⟨7, _, rfl, rfl, fun _ => ?_⟩
          refine rd_tup ?_
          refine ra_cons ?_
          refine rd_op2 o_ix ?_
          refine rd_var rfl ?_
          intro _
          refine rd_op2 o_add ?_
          refine rd_var rfl ?_
          intro _
          refine rd_var rfl ?_
          refine ⟨_, _, _, rfl, rfl, rfl, fun t31 => ?_⟩
          refine ⟨_, _, _, rfl, rfl, rfl, fun t30 => ?_⟩
          intro _
          refine ra_cons ?_
          refine rd_var rfl ?_
          intro _
          refine ra_nil ?_
          refine ⟨[t30, z23.1], rfl, (by show (2 : Nat) ≤ 1000; decide), ?_⟩
          refine ⟨_, _, _, rfl, rfl, rfl, fun t29 => ?_⟩
          exact ⟨_, rfl, ⟨.inr rfl, ⟨.inr rfl, ⟨.inr rfl, ⟨.inr rfl, ⟨.inr rfl, ⟨.inr rfl, ⟨.inr rfl, ⟨.inr rfl, ⟨.inl rfl, ⟨.inl rfl, trivial⟩⟩⟩⟩⟩⟩⟩⟩⟩⟩⟩
      · refine rs_at [some (.l z15.1), some (.f x_most), some (.f r1.1), some (.f t2), some (.f (.lst r4.1)), some (.f r6.1), some (.f z11), some (.l z15.2), none, none] rfl ?_
        refine rs_ret ?_
        refine rd_tup ?_
        refine ra_cons ?_
        refine rd_fz ?_
        refine rd_slL ?_
        refine rd_var rfl ?_
        intro _
        refine ro_none ?_
        refine ro_some ?_
        refine rd_var rfl ?_
        refine ⟨_, _, rfl, rfl, fun t33 => ?_⟩
        refine ⟨_, _, rfl, rfl, fun t32 => ?_⟩
        refine ⟨_, rfl, ?_⟩
        intro _
        refine ra_cons ?_
        refine rd_frz rfl ?_
        intro _
        refine ra_nil ?_
        refine ⟨[(.lst t32), (.lst z15.2)], rfl, (by show (2 : Nat) ≤ 1000; decide), ?_⟩
        refine ⟨_, rfl, ?_⟩
        exact ⟨_, rfl, rfl, ⟨rfl, by decide, trivial⟩⟩
theorem ok__law_standing (T : Tx K mg) : FnOk P w K mg base CX0 2 T.a__law_standing T.d__law_standing ["store", "net"] (spOf (A := (List D) × D) (R := D × (List D)) EC.ec (fun a => [.l a.1, .f a.2]) (fun a => m__law_standing a.1 a.2) (fun r => .f r.1) (fun r => [some (.l r.2), none])) := by
  refine T.F__law_standing.ok sc__law_standing (fun vs H Q E h => ?_) (fun cdv A outer s H vs Q E hr h => ?_)
  · obtain ⟨a, G, w, _, _, hl, _⟩ := h; exact hl
  · refine ⟨_, (pss_one (ps_ret (pe_joinK (Kf := K) (by rfl) pe_str (pe_lc (own := [("k", 2)]) rfl (by exact sc__law_standing.nd) (pi_range1 (by rfl) T.n_range (pa_cons (pe_op op_addA (pe_callB (call_lenK (Kf := K) (by rfl)) (by rfl) T.n_len PySem.boot_len (pa_cons (pe_ix (ix_anyK (Kf := K) (by rfl)) (pv 1) pe_int (fun _ _ => rfl)) pa_nil)) (pe_callB (call_lenK (Kf := K) (by rfl)) (by rfl) T.n_len PySem.boot_len (pa_cons (pe_ix (ix_anyK (Kf := K) (by rfl)) (pv 1) pe_int (fun _ _ => rfl)) pa_nil))) pa_nil)) blk__law_standing_0 (fun _ _ _ _ _ => (pg_name (i := 2) sc__law_standing.nd rfl (by first | exact .inl rfl | exact .inr rfl))) (fun _ _ _ _ _ => pts_nil) (fun _ _ _ _ _ => (pe_ix (ix_anyK (Kf := K) (by rfl)) pe_str (pe_call (ok__law_take T) (hr.mono (by decide)) (by rfl) T.g__law_take T.F__law_take.kp T.b__law_take .nil (show Passes CX0 _ E from pass0) (pa_cons (pv 0) (pa_cons pe_int pa_nil))) (fun _ _ => rfl))))))), ?_⟩
    refine fn_body (K := K) [0] (fun _ => by show (2 : Nat) ≤ 3; decide) (fun _ => by show ∀ k ∈ ([0] : List Nat), k < 2; decide) h (fun F a hec hE hK hpv => ?_)
    obtain ⟨x_store, x_net⟩ := a
    show RS F [] [some (.l x_store), some (.f x_net), none] (m__law_standing x_store x_net) _ _ _
    unfold m__law_standing
    refine rs_ret ?_
    refine rd_jn ?_
    refine rd_str e_qx_ ?_
    refine ⟨_, _, rfl, rfl, fun t2 _ => ?_⟩
    refine rd_lc (Z := (List D)) [2] (fun i hi => hi) (all1 (hpv _ (by decide))) ?_
    refine ri_range1 ?_
    refine rd_op2 o_add ?_
    refine rd_cb1 o_len ?_
    refine rd_op2 o_ix ?_
    refine rd_var rfl ?_
    intro _
    refine rd_int ?_
    refine ⟨_, _, _, rfl, rfl, rfl, fun t9 => ?_⟩
    refine ⟨_, _, rfl, rfl, fun t8 => ?_⟩
    intro _
    refine rd_cb1 o_len ?_
    refine rd_op2 o_ix ?_
    refine rd_var rfl ?_
    intro _
    refine rd_int ?_
    refine ⟨_, _, _, rfl, rfl, rfl, fun t11 => ?_⟩
    refine ⟨_, _, rfl, rfl, fun t10 => ?_⟩
    refine ⟨_, _, _, rfl, rfl, rfl, fun t7 => ?_⟩
    refine ⟨_, _, rfl, rfl, fun ds6 => ?_⟩
    refine ⟨fun z4 => [some (.l z4), some (.f x_net), none], x_store, _, _, rfl, ⟨.inr rfl, ⟨.inr rfl, ⟨.inl rfl, trivial⟩⟩⟩, fun _ => (by first | exact trivial | rfl | exact ⟨rfl, rfl⟩), fun _ => (all1 rfl), rfl, fun z4 d3 _ _ => ?_, fun p5 => ?_⟩
    · refine rg_name (by show (2 : Nat) < 3; decide) rfl (hpv _ (by decide)) ?_
      refine rt_true rfl ?_
      refine ⟨_, .ok (none, z4), (if_pos rfl).symm, fun _ => ?_, fun h => by cases h⟩
      refine rd_op2 o_ix ?_
      refine rd_str e_q_01 ?_
      intro _
      refine rd_call hec hE ?_
      refine ra_cons ?_
      refine rd_ali rfl ?_
      intro _
      refine ra_cons ?_
      refine rd_int ?_
      intro _
      refine ra_nil ?_
      refine ⟨(z4, (.int 2)), _, rfl, rfl, rfl, fun r13 => ?_⟩
      refine ⟨_, _, _, rfl, rfl, rfl, fun t12 => ?_⟩
      exact ⟨_, _, rfl, rfl, ⟨.inr rfl, ⟨.inr rfl, ⟨.inl rfl, trivial⟩⟩⟩⟩
    · refine ⟨_, _, _, rfl, rfl, rfl, fun t1 => ?_⟩
      refine ⟨_, rfl, ?_⟩
      exact ⟨_, rfl, rfl, ⟨rfl, by decide, trivial⟩⟩
theorem ok__law_no_standing (T : Tx K mg) : FnOk P w K mg base CX0 2 T.a__law_no_standing T.d__law_no_standing ["store", "standing"] (spOf (A := (List D) × D) (R := D × (List D)) EC.ec (fun a => [.l a.1, .f a.2]) (fun a => m__law_no_standing a.1 a.2) (fun r => .f r.1) (fun r => [some (.l r.2), none])) := by
  refine T.F__law_no_standing.ok sc__law_no_standing (fun vs H Q E h => ?_) (fun cdv A outer s H vs Q E hr h => ?_)
  · obtain ⟨a, G, w, _, _, hl, _⟩ := h; exact hl
  · refine ⟨_, (pss_cons (ps_set (i := 2) sc__law_no_standing.nd rfl (by first | exact .inl rfl | exact .inr rfl) (pe_call (ok__law_take T) (hr.mono (by decide)) (by rfl) T.g__law_take T.F__law_take.kp T.b__law_take .nil (show Passes CX0 _ E from pass0) (pa_cons (pv 0) (pa_cons (pe_callB (call_lenK (Kf := K) (by rfl)) (by rfl) T.n_len PySem.boot_len (pa_cons (pv 1) pa_nil)) pa_nil)))) (pss_cons (ps_set (i := 3) sc__law_no_standing.nd rfl (by first | exact .inl rfl | exact .inr rfl) (pe_ix (ix_anyK (Kf := K) (by rfl)) pe_str (pe_call (ok__law_take T) (hr.mono (by decide)) (by rfl) T.g__law_take T.F__law_take.kp T.b__law_take .nil (show Passes CX0 _ E from pass0) (pa_cons (pv 0) (pa_cons pe_int pa_nil))) (fun _ _ => rfl))) (pss_cons (ps_set (i := 4) sc__law_no_standing.nd rfl (by first | exact .inl rfl | exact .inr rfl) (pe_lst (pa_cons (pe_op op_addA (pv 1) pe_str) (pa_cons (pe_op op_addA (pv 1) pe_str) (pa_cons (pe_slice sl_str (pv 1) po_none (po_some (pe_un un_neg pe_int))) (pa_cons (pe_op op_addA (pe_op op_addA (pe_slice sl_str (pv 1) po_none (po_some (pv 2))) (pv 3)) (pe_slice sl_str (pv 1) (po_some (pe_op op_addA (pv 2) pe_int)) po_none)) (pa_cons pe_str (pa_cons (pv 3) pa_nil)))))))) (pss_cons (ps_set (i := 5) sc__law_no_standing.nd rfl (by first | exact .inl rfl | exact .inr rfl) (pe_lst (pa_cons pe_non (pa_cons pe_int (pa_cons pe_int (pa_cons pe_bl (pa_cons (pe_lst (pa_cons pe_str pa_nil)) (pa_cons (pe_tup (pa_cons pe_str (pa_cons pe_str pa_nil))) (pa_cons pe_dnewK (pa_cons (pe_op op_pow pe_int pe_int) (pa_cons (pe_callTy (call_listSK (by rfl)) (by rfl) T.n_list PyProof.Rows.boot_list (pa_cons (pv 1) pa_nil)) pa_nil))))))))))) (pss_one (ps_ret (pe_ix (ix_anyK (Kf := K) (by rfl)) (pe_op op_catR (pv 4) (pv 5)) (pe_call (ok__law_take T) (hr.mono (by decide)) (by rfl) T.g__law_take T.F__law_take.kp T.b__law_take .nil (show Passes CX0 _ E from pass0) (pa_cons (pv 0) (pa_cons pe_int pa_nil))) (fun _ _ => rfl)))))))), ?_⟩
    refine fn_body (K := K) [0] (fun _ => by show (2 : Nat) ≤ 6; decide) (fun _ => by show ∀ k ∈ ([0] : List Nat), k < 2; decide) h (fun F a hec hE hK hpv => ?_)
    obtain ⟨x_store, x_standing⟩ := a
    show RS F [] [some (.l x_store), some (.f x_standing), none, none, none, none] (m__law_no_standing x_store x_standing) _ _ _
    unfold m__law_no_standing
    refine rs_seq ?_
    refine rs_set ?_ rfl (hpv _ (by decide))
    refine rd_call hec hE ?_
    refine ra_cons ?_
    refine rd_ali rfl ?_
    intro _
    refine ra_cons ?_
    refine rd_cb1 o_len ?_
    refine rd_var rfl ?_
    refine ⟨_, _, rfl, rfl, fun t2 => ?_⟩
    intro _
    refine ra_nil ?_
    refine ⟨(x_store, t2), _, rfl, rfl, rfl, fun r1 => ?_⟩
    refine ⟨_, rfl, (by show (2 : Nat) < 6; decide), ?_⟩
    refine rs_at [some (.l r1.2), some (.f x_standing), some (.f r1.1), none, none, none] rfl ?_
    refine rs_seq ?_
    refine rs_set ?_ rfl (hpv _ (by decide))
    refine rd_op2 o_ix ?_
    refine rd_str e_qx_32202d614f7e2e3e78 ?_
    intro _
    refine rd_call hec hE ?_
    refine ra_cons ?_
    refine rd_ali rfl ?_
    intro _
    refine ra_cons ?_
    refine rd_int ?_
    intro _
    refine ra_nil ?_
    refine ⟨(r1.2, (.int 9)), _, rfl, rfl, rfl, fun r4 => ?_⟩
    refine ⟨_, _, _, rfl, rfl, rfl, fun t3 => ?_⟩
    refine ⟨_, rfl, (by show (3 : Nat) < 6; decide), ?_⟩
    refine rs_at [some (.l r4.2), some (.f x_standing), some (.f r1.1), some (.f t3), none, none] rfl ?_
    refine rs_seq ?_
    refine rs_set ?_ rfl (hpv _ (by decide))
    refine rd_fz ?_
    refine rd_lst ?_
    refine ra_cons ?_
    refine rd_op2 o_add ?_
    refine rd_var rfl ?_
    intro _
    refine rd_str e_q_0 ?_
    refine ⟨_, _, _, rfl, rfl, rfl, fun t5 => ?_⟩
    intro _
    refine ra_cons ?_
    refine rd_op2 o_add ?_
    refine rd_var rfl ?_
    intro _
    refine rd_str e_q_1 ?_
    refine ⟨_, _, _, rfl, rfl, rfl, fun t6 => ?_⟩
    intro _
    refine ra_cons ?_
    refine rd_slS ?_
    refine rd_var rfl ?_
    intro _
    refine ro_none ?_
    refine ro_some ?_
    refine rd_un o_neg ?_
    refine rd_int ?_
    refine ⟨_, _, rfl, rfl, fun t9 => ?_⟩
    refine ⟨_, _, rfl, rfl, fun t8 => ?_⟩
    refine ⟨_, _, rfl, rfl, fun t7 => ?_⟩
    intro _
    refine ra_cons ?_
    refine rd_op2 o_add ?_
    refine rd_op2 o_add ?_
    refine rd_slS ?_
    refine rd_var rfl ?_
    intro _
    refine ro_none ?_
    refine ro_some ?_
    refine rd_var rfl ?_
    refine ⟨_, _, rfl, rfl, fun t13 => ?_⟩
    refine ⟨_, _, rfl, rfl, fun t12 => ?_⟩
    intro _
    refine rd_var rfl ?_
    refine ⟨_, _, _, rfl, rfl, rfl, fun t11 => ?_⟩
    intro _
    refine rd_slS ?_
    refine rd_var rfl ?_
    intro _
    refine ro_some ?_
    refine rd_op2 o_add ?_
    refine rd_var rfl ?_
    intro _
    refine rd_int ?_
    refine ⟨_, _, _, rfl, rfl, rfl, fun t16 => ?_⟩
    refine ⟨_, _, rfl, rfl, fun t15 => ?_⟩
    refine ro_none ?_
    refine ⟨_, _, rfl, rfl, fun t14 => ?_⟩
    refine ⟨_, _, _, rfl, rfl, rfl, fun t10 => ?_⟩
    intro _
    refine ra_cons ?_
    refine rd_str e_qx_ ?_
    intro _
    refine ra_cons ?_
    refine rd_var rfl ?_
    intro _
    refine ra_nil ?_
    refine ⟨[t5, t6, t7, t10, (.str qx_), t3], rfl, (by show (6 : Nat) ≤ 1000; decide), ?_⟩
    refine ⟨_, rfl, ?_⟩
    refine ⟨_, rfl, (by show (4 : Nat) < 6; decide), ?_⟩
    refine rs_at [some (.l r4.2), some (.f x_standing), some (.f r1.1), some (.f t3), some (.f (.lst [t5, t6, t7, t10, (.str qx_), t3])), none] rfl ?_
    refine rs_seq ?_
    refine rs_set ?_ rfl (hpv _ (by decide))
    refine rd_fz ?_
    refine rd_lst ?_
    refine ra_cons ?_
    refine rd_non ?_
    intro _
    refine ra_cons ?_
    refine rd_int ?_
    intro _
    refine ra_cons ?_
    refine rd_int ?_
    intro _
    refine ra_cons ?_
    refine rd_bl ?_
    intro _
    refine ra_cons ?_
    refine rd_fz ?_
    refine rd_lst ?_
    refine ra_cons ?_
    refine rd_str e_q_0 ?_
    intro _
    refine ra_nil ?_
    refine ⟨[(.str q_0)], rfl, (by show (1 : Nat) ≤ 1000; decide), ?_⟩
    refine ⟨_, rfl, ?_⟩
    intro _
    refine ra_cons ?_
    refine rd_tup ?_
    refine ra_cons ?_
    refine rd_str e_q_0 ?_
    intro _
    refine ra_cons ?_
    refine rd_str e_q_1 ?_
    intro _
    refine ra_nil ?_
    refine ⟨[(.str q_0), (.str q_1)], rfl, (by show (2 : Nat) ≤ 1000; decide), ?_⟩
    intro _
    refine ra_cons ?_
    refine rd_fz ?_
    refine rd_dnewK ?_
    refine ⟨_, rfl, ?_⟩
    intro _
    refine ra_cons ?_
    refine rd_op2 o_pow ?_
    refine rd_int ?_
    intro _
    refine rd_int ?_
    refine ⟨_, _, _, rfl, rfl, rfl, fun t17 => ?_⟩
    intro _
    refine ra_cons ?_
    refine rd_fz ?_
    refine rd_cb1L o_listS ?_
    refine rd_var rfl ?_
    refine ⟨_, _, rfl, rfl, fun t18 => ?_⟩
    refine ⟨_, rfl, ?_⟩
    intro _
    refine ra_nil ?_
    refine ⟨[.non, (.int 0), (.int 1), (.bl true), (.lst [(.str q_0)]), (.tup [(.str q_0), (.str q_1)]), (.dct false []), t17, (.lst t18)], rfl, (by show (9 : Nat) ≤ 1000; decide), ?_⟩
    refine ⟨_, rfl, ?_⟩
    refine ⟨_, rfl, (by show (5 : Nat) < 6; decide), ?_⟩
    refine rs_at [some (.l r4.2), some (.f x_standing), some (.f r1.1), some (.f t3), some (.f (.lst [t5, t6, t7, t10, (.str qx_), t3])), some (.f (.lst [.non, (.int 0), (.int 1), (.bl true), (.lst [(.str q_0)]), (.tup [(.str q_0), (.str q_1)]), (.dct false []), t17, (.lst t18)]))] rfl ?_
    refine rs_ret ?_
    refine rd_op2 o_ix ?_
    refine rd_op2L o_cat ?_
    refine rd_var rfl ?_
    intro _
    refine rd_var rfl ?_
    refine ⟨_, _, _, rfl, rfl, rfl, fun t20 => ?_⟩
    intro _
    refine rd_call hec hE ?_
    refine ra_cons ?_
    refine rd_ali rfl ?_
    intro _
    refine ra_cons ?_
    refine rd_int ?_
    intro _
    refine ra_nil ?_
    refine ⟨(r4.2, (.int 15)), _, rfl, rfl, rfl, fun r21 => ?_⟩
    refine ⟨_, _, _, rfl, rfl, rfl, fun t19 => ?_⟩
    refine ⟨_, rfl, ?_⟩
    exact ⟨_, rfl, rfl, ⟨rfl, by decide, trivial⟩⟩
theorem ok__law_cell (T : Tx K mg) : FnOk P w K mg base CX0 1 T.a__law_cell T.d__law_cell ["script", "k"] (spOf (A := D × D) (R := D) EC.ec (fun a => [.f a.1, .f a.2]) (fun a => m__law_cell a.1 a.2) (fun r => .f r) (fun r => [none, none])) := by
  refine T.F__law_cell.ok sc__law_cell (fun vs H Q E h => ?_) (fun cdv A outer s H vs Q E hr h => ?_)
  · obtain ⟨a, G, w, _, _, hl, _⟩ := h; exact hl
  · refine ⟨_, (pss_cons (ps_if (pt_cmpR op_ltA (pv 1) (pe_callB (call_lenK (Kf := K) (by rfl)) (by rfl) T.n_len PySem.boot_len (pa_cons (pv 0) pa_nil)) (nomark _)) (pss_one (ps_ret (pe_ix (ix_anyK (Kf := K) (by rfl)) (pv 0) (pv 1) (fun _ _ => rfl)))) pss_nil) (pss_one (ps_ret (pe_op op_addA (pe_op op_addA (pe_op op_mul (pe_op op_mul pe_int (pv 1)) (pv 1)) (pe_op op_mul pe_int (pv 1))) pe_int)))), ?_⟩
    refine fn_body (K := K) [] (fun _ => by show (2 : Nat) ≤ 2; decide) (fun _ => by show ∀ k ∈ ([] : List Nat), k < 2; decide) h (fun F a hec hE hK hpv => ?_)
    obtain ⟨x_script, x_k⟩ := a
    show RS F [] [some (.f x_script), some (.f x_k)] (m__law_cell x_script x_k) _ _ _
    unfold m__law_cell
    refine rs_seq ?_
    refine rs_if ?_
    refine rt_op2B o_lt ?_
    refine rd_var rfl ?_
    intro _
    refine rd_cb1 o_len ?_
    refine rd_var rfl ?_
    refine ⟨_, _, rfl, rfl, fun t2 => ?_⟩
    refine ⟨_, _, _, rfl, rfl, rfl, fun t1 => ?_⟩
    refine ⟨_, _, rfl, fun _ => ?_, fun _ => ?_⟩
    · refine rs_ret ?_
      refine rd_op2 o_ix ?_
      refine rd_var rfl ?_
      intro _
      refine rd_var rfl ?_
      refine ⟨_, _, _, rfl, rfl, rfl, fun t3 => ?_⟩
      refine ⟨_, rfl, ?_⟩
      exact ⟨_, rfl, rfl, trivial⟩
    · refine rs_next ?_
      refine rs_at [some (.f x_script), some (.f x_k)] rfl ?_
      refine rs_ret ?_
      refine rd_op2 o_add ?_
      refine rd_op2 o_add ?_
      refine rd_op2 o_mul ?_
      refine rd_op2 o_mul ?_
      refine rd_int ?_
      intro _
      refine rd_var rfl ?_
      refine ⟨_, _, _, rfl, rfl, rfl, fun t7 => ?_⟩
      intro _
      refine rd_var rfl ?_
      refine ⟨_, _, _, rfl, rfl, rfl, fun t6 => ?_⟩
      intro _
      refine rd_op2 o_mul ?_
      refine rd_int ?_
      intro _
      refine rd_var rfl ?_
      refine ⟨_, _, _, rfl, rfl, rfl, fun t8 => ?_⟩
      refine ⟨_, _, _, rfl, rfl, rfl, fun t5 => ?_⟩
      intro _
      refine rd_int ?_
      refine ⟨_, _, _, rfl, rfl, rfl, fun t4 => ?_⟩
      refine ⟨_, rfl, ?_⟩
      exact ⟨_, rfl, rfl, trivial⟩
theorem ok_need_standing (T : Tx K mg) : FnOk P w K mg base (L2.CX P w) 1 T.a_need_standing T.d_need_standing ["net", "standing"] (spOf (A := D × D) (R := D) EC.ec (fun a => [.f a.1, .f a.2]) (fun a => m_need_standing a.1 a.2) (fun r => .f r) (fun r => [none, none])) := by
  refine T.F_need_standing.okX sc_need_standing (fun vs H Q E h => ?_) (fun cdv A outer s H vs Q E hr h => ?_)
  · obtain ⟨a, G, w, _, _, hl, _⟩ := h; exact hl
  · refine ⟨_, (pss_cons (ps_if (pw_or (pt_not (pt_val (pe_callB (call_isiK' (Kf := K) (by rfl)) (by rfl) T.n_isinstance PyProof.Rows.boot_isinstance (pa_cons (pv 1) (pa_cons (pe_bltn (v := .ty "str") (u := .type "str") (by rfl) T.n_str (by decide +kernel) rfl) pa_nil))))) (pw_or1 (pt_cmpR (op_neM (hu_64 hr)) (pe_callB (call_lenK (Kf := K) (by rfl)) (by rfl) T.n_len PySem.boot_len (pa_cons (pv 1) pa_nil)) (pe_op op_addA (pe_callB (call_lenK (Kf := K) (by rfl)) (by rfl) T.n_len PySem.boot_len (pa_cons (pe_ix (ix_anyK (Kf := K) (by rfl)) (pv 0) pe_int (fun _ _ => rfl)) pa_nil)) (pe_callB (call_lenK (Kf := K) (by rfl)) (by rfl) T.n_len PySem.boot_len (pa_cons (pe_ix (ix_anyK (Kf := K) (by rfl)) (pv 0) pe_int (fun _ _ => rfl)) pa_nil))) (nomark _)))).pt (pss_one (ps_raise rfl (takes_of rfl rfl rfl rfl) (pmk_own PySem.F.excBase_ValueError T.xe_1 T.xg_1 T.xk_1 (raises_own (T.xf.one 1 (by decide)).su T.xt_1) rfl))) pss_nil) (pss_one (ps_if (pt_cmpR (op_neM (hu_64 hr)) (pe_lc (own := [("sign", 2)]) rfl (by exact sc_need_standing.nd) (pi_str (pv 1)) blk_need_standing_0 (fun _ _ _ _ _ => (pg_name (i := 2) sc_need_standing.nd rfl (by first | exact .inl rfl | exact .inr rfl))) (fun _ _ _ _ _ => (pts_one (pt_cmpR (op_notInK (Kf := K) (by rfl)) (pv 2) pe_str rfl))) (fun _ _ _ _ _ => (pv 2))) (pe_lst pa_nil) (nomark _)) (pss_one (ps_raise rfl (takes_of rfl rfl rfl rfl) (pmk_own PySem.F.excBase_ValueError T.xe_1 T.xg_1 T.xk_1 (raises_own (T.xf.one 1 (by decide)).su T.xt_1) rfl))) pss_nil))), ?_⟩
    refine fn_body (K := K) [] (fun _ => by show (2 : Nat) ≤ 3; decide) (fun _ => by show ∀ k ∈ ([] : List Nat), k < 2; decide) h (fun F a hec hE hK hpv => ?_)
    obtain ⟨x_net, x_standing⟩ := a
    show RS F [] [some (.f x_net), some (.f x_standing), none] (m_need_standing x_net x_standing) _ _ _
    unfold m_need_standing
    refine rs_seq ?_
    refine rs_if ?_
    refine rt_or (Z := Unit) ?_
    refine rt_not ?_
    refine rt_val ?_
    refine rd_isi .str ?_
    refine rd_var rfl ?_
    refine ⟨_, _, rfl, rfl, fun t3 => ?_⟩
    refine ⟨_, _, rfl, rfl, fun t2 => ?_⟩
    refine ⟨fun z => [some (.f x_net), some (.f x_standing), none], (), _, _, rfl, ⟨.inr rfl, ⟨.inr rfl, ⟨.inl rfl, trivial⟩⟩⟩, fun _ => ?_, fun p1 => ?_⟩
    · refine rt_op2B o_ne ?_
      refine rd_cb1 o_len ?_
      refine rd_var rfl ?_
      refine ⟨_, _, rfl, rfl, fun t5 => ?_⟩
      intro _
      refine rd_op2 o_add ?_
      refine rd_cb1 o_len ?_
      refine rd_op2 o_ix ?_
      refine rd_var rfl ?_
      intro _
      refine rd_int ?_
      refine ⟨_, _, _, rfl, rfl, rfl, fun t8 => ?_⟩
      refine ⟨_, _, rfl, rfl, fun t7 => ?_⟩
      intro _
      refine rd_cb1 o_len ?_
      refine rd_op2 o_ix ?_
      refine rd_var rfl ?_
      intro _
      refine rd_int ?_
      refine ⟨_, _, _, rfl, rfl, rfl, fun t10 => ?_⟩
      refine ⟨_, _, rfl, rfl, fun t9 => ?_⟩
      refine ⟨_, _, _, rfl, rfl, rfl, fun t6 => ?_⟩
      refine ⟨_, _, _, rfl, rfl, rfl, fun t4 => ?_⟩
      exact ⟨_, rfl, ⟨.inr rfl, ⟨.inr rfl, ⟨.inl rfl, trivial⟩⟩⟩⟩
    · refine ⟨_, _, rfl, fun _ => ?_, fun _ => ?_⟩
      · exact rs_raise (k := 1) hE (by rw [hec]) rfl
      · refine rs_next ?_
        refine rs_at [some (.f x_net), some (.f x_standing), none] rfl ?_
        refine rs_if ?_
        refine rt_op2B o_ne ?_
        refine rd_lcR [2] (fun i hi => hi) (all1 (hpv _ (by decide))) ?_
        refine ri_str ?_
        refine rd_var rfl ?_
        refine ⟨_, _, rfl, rfl, fun ds14 => ?_⟩
        refine ⟨[some (.f x_net), some (.f x_standing), none], _, _, rfl, ⟨.inr rfl, ⟨.inr rfl, ⟨.inl rfl, trivial⟩⟩⟩, (by first | exact trivial | rfl | exact ⟨rfl, rfl⟩), (all1 rfl), rfl, fun d12 _ _ => ?_, fun ys13 => ?_⟩
        · refine rg_name (by show (2 : Nat) < 3; decide) rfl (hpv _ (by decide)) ?_
          refine rt_op2B o_notIn ?_
          refine rd_var rfl ?_
          intro _
          refine rd_str e_q_01 ?_
          refine ⟨_, _, _, rfl, rfl, rfl, fun t15 => ?_⟩
          refine ⟨_, _, rfl, fun _ => ?_, fun _ => ⟨rfl, ⟨.inr rfl, ⟨.inr rfl, ⟨.inl rfl, trivial⟩⟩⟩⟩⟩
          refine rd_var rfl ?_
          exact ⟨_, rfl, rfl, ⟨.inr rfl, ⟨.inr rfl, ⟨.inl rfl, trivial⟩⟩⟩⟩
        · intro _
          refine rd_lst ?_
          refine ra_nil ?_
          refine ⟨[], rfl, (by show (0 : Nat) ≤ 1000; decide), ?_⟩
          refine ⟨_, _, _, rfl, rfl, rfl, fun t11 => ?_⟩
          refine ⟨_, _, rfl, fun _ => ?_, fun _ => ?_⟩
          · exact rs_raise (k := 1) hE (by rw [hec]) rfl
          · refine rs_next ?_
            exact ⟨_, rfl, rfl, trivial⟩
theorem ok_wires_of (T : Tx K mg) : FnOk P w K mg base CX0 1 T.a_wires_of T.d_wires_of ["net"] (spOf (A := D) (R := List D) EC.ec (fun a => [.f a]) (fun a => m_wires_of a) (fun r => .l r) (fun r => [none])) := by
  refine T.F_wires_of.ok sc_wires_of (fun vs H Q E h => ?_) (fun cdv A outer s H vs Q E hr h => ?_)
  · obtain ⟨a, G, w, _, _, hl, _⟩ := h; exact hl
  · refine ⟨_, (pss_one (ps_ret (pe_op op_catR (pe_callTy (call_listK (Kf := K) (by rfl)) (by rfl) T.n_list PyProof.Rows.boot_list (pa_cons (pe_ix (ix_anyK (Kf := K) (by rfl)) (pv 0) pe_int (fun _ _ => rfl)) pa_nil)) (pe_lc (own := [("name", 1), ("rule", 2)]) rfl (by exact sc_wires_of.nd) (pi_listK (Kf := K) (by rfl) (pe_ix (ix_anyK (Kf := K) (by rfl)) (pv 0) pe_int (fun _ _ => rfl))) blk_wires_of_0 (fun _ _ _ _ _ => (pg_tupK (Kf := K) (n := 2) (by rfl) rfl (pgs_cons (pg_name (i := 1) sc_wires_of.nd rfl (by first | exact .inl rfl | exact .inr rfl)) (pgs_cons (pg_name (i := 2) sc_wires_of.nd rfl (by first | exact .inl rfl | exact .inr rfl)) pgs_nil)))) (fun _ _ _ _ _ => pts_nil) (fun _ _ _ _ _ => (pv 1)))))), ?_⟩
    refine fn_body (K := K) [] (fun _ => by show (1 : Nat) ≤ 3; decide) (fun _ => by show ∀ k ∈ ([] : List Nat), k < 1; decide) h (fun F x_net hec hE hK hpv => ?_)
    skip
    show RS F [] [some (.f x_net), none, none] (m_wires_of x_net) _ _ _
    unfold m_wires_of
    refine rs_ret ?_
    refine rd_op2L o_cat ?_
    refine rd_cb1L o_list ?_
    refine rd_op2 o_ix ?_
    refine rd_var rfl ?_
    intro _
    refine rd_int ?_
    refine ⟨_, _, _, rfl, rfl, rfl, fun t3 => ?_⟩
    refine ⟨_, _, rfl, rfl, fun t2 => ?_⟩
    intro _
    refine rd_lcR [1, 2] (fun i hi => hi) (all2 (hpv _ (by decide)) (hpv _ (by decide))) ?_
    refine ri_lst ?_
    refine rd_op2 o_ix ?_
    refine rd_var rfl ?_
    intro _
    refine rd_int ?_
    refine ⟨_, _, _, rfl, rfl, rfl, fun t7 => ?_⟩
    refine ⟨_, _, rfl, rfl, fun ds6 _ => ?_⟩
    refine ⟨[some (.f x_net), none, none], _, _, rfl, ⟨.inr rfl, ⟨.inl rfl, ⟨.inl rfl, trivial⟩⟩⟩, (by first | exact trivial | rfl | exact ⟨rfl, rfl⟩), (all2 rfl rfl), rfl, fun d4 _ _ => ?_, fun ys5 => ?_⟩
    · refine rg_n2 ⟨_, rfl, fun p8 => ?_⟩
      refine rgs_cons (by show (1 : Nat) < 3; decide) rfl (hpv _ (by decide)) ?_
      refine rgs_cons (by show (2 : Nat) < 3; decide) rfl (hpv _ (by decide)) ?_
      refine rgs_nil ?_
      refine rt_true rfl ?_
      refine ⟨_, .ok none, (if_pos rfl).symm, fun _ => ?_, fun h => by cases h⟩
      refine rd_var rfl ?_
      exact ⟨_, rfl, rfl, ⟨.inr rfl, ⟨.inl rfl, ⟨.inl rfl, trivial⟩⟩⟩⟩
    · refine ⟨_, _, _, rfl, rfl, rfl, fun t1 => ?_⟩
      refine ⟨_, rfl, ?_⟩
      exact ⟨_, rfl, rfl, trivial⟩
theorem ok_signs_by_name (T : Tx K mg) : FnOk P w K mg base CX0 2 T.a_signs_by_name T.d_signs_by_name ["net", "standing"] (spOf (A := D × D) (R := List (D × D)) EC.ec (fun a => [.f a.1, .f a.2]) (fun a => m_signs_by_name a.1 a.2) (fun r => .dc false r) (fun r => [none, none])) := by
  refine T.F_signs_by_name.ok sc_signs_by_name (fun vs H Q E h => ?_) (fun cdv A outer s H vs Q E hr h => ?_)
  · obtain ⟨a, G, w, _, _, hl, _⟩ := h; exact hl
  · refine ⟨_, (pss_one (ps_ret (pe_dictZip rfl (by rfl) T.n_dict (by rfl) T.n_zip (pe_call (ok_wires_of T) (hr.mono (by decide)) (by rfl) T.g_wires_of T.F_wires_of.kp T.b_wires_of .nil (show Passes CX0 _ E from pass0) (pa_cons (pv 0) pa_nil)) (pv 1)))), ?_⟩
    refine fn_body (K := K) [] (fun _ => by show (2 : Nat) ≤ 2; decide) (fun _ => by show ∀ k ∈ ([] : List Nat), k < 2; decide) h (fun F a hec hE hK hpv => ?_)
    obtain ⟨x_net, x_standing⟩ := a
    show RS F [] [some (.f x_net), some (.f x_standing)] (m_signs_by_name x_net x_standing) _ _ _
    unfold m_signs_by_name
    refine rs_ret ?_
    refine rd_dzip ?_
    refine rd_call hec hE ?_
    refine ra_cons ?_
    refine rd_var rfl ?_
    intro _
    refine ra_nil ?_
    refine ⟨(x_net), _, rfl, rfl, rfl, fun r2 => ?_⟩
    intro _
    refine rd_var rfl ?_
    refine ⟨_, _, _, rfl, rfl, rfl, fun t1 => ?_⟩
    refine ⟨_, rfl, ?_⟩
    exact ⟨_, rfl, rfl, trivial⟩
theorem ok_rule_holds (T : Tx K mg) : ∀ n_ : Nat, FnOk P w K mg base CX0 (n_ + 1) T.a_rule_holds T.d_rule_holds ["rule", "signs"] (spOf (A := D × D) (R := D) EC.ec (fun a => [.f a.1, .f a.2]) (fun a => m_rule_holds n_ a.1 a.2) (fun r => .f r) (fun r => [none, none]))
  | 0 => by
    refine T.F_rule_holds.ok sc_rule_holds (fun vs H Q E h => ?_) (fun cdv A outer s H vs Q E hr h => ?_)
    · obtain ⟨a, G, w, _, _, hl, _⟩ := h; exact hl
    · obtain ⟨a, G, w, _, _, _, _, nf, _⟩ := h; exact absurd rfl nf
  | n_ + 1 => by
    refine T.F_rule_holds.ok sc_rule_holds (fun vs H Q E h => ?_) (fun cdv A outer s H vs Q E hr h => ?_)
    · obtain ⟨a, G, w, _, _, hl, _⟩ := h; exact hl
    · refine ⟨_, (pss_cons (ps_if (pt_cmpR (op_eqM (hu_64 hr)) (pe_ix (ix_anyK (Kf := K) (by rfl)) (pv 0) pe_int (fun _ _ => rfl)) pe_str (nomark _)) (pss_one (ps_ret (pe_cmpR (op_eqM (hu_64 hr)) (pe_dget (hu_1 hr) (pv 1) (pe_ix (ix_anyK (Kf := K) (by rfl)) (pv 0) pe_int (fun _ _ => rfl)) (fun _ _ => rfl)) pe_str (nomark _)))) pss_nil) (pss_cons (ps_if (pt_cmpR (op_eqM (hu_64 hr)) (pe_ix (ix_anyK (Kf := K) (by rfl)) (pv 0) pe_int (fun _ _ => rfl)) pe_str (nomark _)) (pss_one (ps_ret (pe_not (pe_call (ok_rule_holds T n_) (hr.mono (by omega)) (by rfl) T.g_rule_holds T.F_rule_holds.kp T.b_rule_holds .nil (show Passes CX0 _ E from pass0) (pa_cons (pe_ix (ix_anyK (Kf := K) (by rfl)) (pv 0) pe_int (fun _ _ => rfl)) (pa_cons (pv 1) pa_nil)))))) pss_nil) (pss_cons (ps_if (pt_cmpR (op_eqM (hu_64 hr)) (pe_ix (ix_anyK (Kf := K) (by rfl)) (pv 0) pe_int (fun _ _ => rfl)) pe_str (nomark _)) (pss_one (ps_ret (pe_and (pe_call (ok_rule_holds T n_) (hr.mono (by omega)) (by rfl) T.g_rule_holds T.F_rule_holds.kp T.b_rule_holds .nil (show Passes CX0 _ E from pass0) (pa_cons (pe_ix (ix_anyK (Kf := K) (by rfl)) (pv 0) pe_int (fun _ _ => rfl)) (pa_cons (pv 1) pa_nil))) (pe_one (pe_call (ok_rule_holds T n_) (hr.mono (by omega)) (by rfl) T.g_rule_holds T.F_rule_holds.kp T.b_rule_holds .nil (show Passes CX0 _ E from pass0) (pa_cons (pe_ix (ix_anyK (Kf := K) (by rfl)) (pv 0) pe_int (fun _ _ => rfl)) (pa_cons (pv 1) pa_nil))))))) pss_nil) (pss_one (ps_ret (pe_or (pe_call (ok_rule_holds T n_) (hr.mono (by omega)) (by rfl) T.g_rule_holds T.F_rule_holds.kp T.b_rule_holds .nil (show Passes CX0 _ E from pass0) (pa_cons (pe_ix (ix_anyK (Kf := K) (by rfl)) (pv 0) pe_int (fun _ _ => rfl)) (pa_cons (pv 1) pa_nil))) (pe_one (pe_call (ok_rule_holds T n_) (hr.mono (by omega)) (by rfl) T.g_rule_holds T.F_rule_holds.kp T.b_rule_holds .nil (show Passes CX0 _ E from pass0) (pa_cons (pe_ix (ix_anyK (Kf := K) (by rfl)) (pv 0) pe_int (fun _ _ => rfl)) (pa_cons (pv 1) pa_nil)))))))))), ?_⟩
      refine fn_body (K := K) [] (fun _ => by show (2 : Nat) ≤ 2; decide) (fun _ => by show ∀ k ∈ ([] : List Nat), k < 2; decide) h (fun F a hec hE hK hpv => ?_)
      obtain ⟨x_rule, x_signs⟩ := a
      show RS F [] [some (.f x_rule), some (.f x_signs)] (m_rule_holds (n_ + 1) x_rule x_signs) _ _ _
      rw [m_rule_holds]
      refine rs_seq ?_
      refine rs_if ?_
      refine rt_op2B o_eq ?_
      refine rd_op2 o_ix ?_
      refine rd_var rfl ?_
      intro _
      refine rd_int ?_
      refine ⟨_, _, _, rfl, rfl, rfl, fun t2 => ?_⟩
      intro _
      refine rd_str e_q_wire ?_
      refine ⟨_, _, _, rfl, rfl, rfl, fun t1 => ?_⟩
      refine ⟨_, _, rfl, fun _ => ?_, fun _ => ?_⟩
      · refine rs_ret ?_
        refine rd_op2B o_eq ?_
        refine rd_dget ?_
        refine rd_var rfl ?_
        intro _
        refine rd_op2 o_ix ?_
        refine rd_var rfl ?_
        intro _
        refine rd_int ?_
        refine ⟨_, _, _, rfl, rfl, rfl, fun t5 => ?_⟩
        refine ⟨_, _, _, rfl, rfl, rfl, fun t4 => ?_⟩
        intro _
        refine rd_str e_q_1 ?_
        refine ⟨_, _, _, rfl, rfl, rfl, fun t3 => ?_⟩
        refine ⟨_, rfl, ?_⟩
        exact ⟨_, rfl, rfl, trivial⟩
      · refine rs_next ?_
        refine rs_at [some (.f x_rule), some (.f x_signs)] rfl ?_
        refine rs_seq ?_
        refine rs_if ?_
        refine rt_op2B o_eq ?_
        refine rd_op2 o_ix ?_
        refine rd_var rfl ?_
        intro _
        refine rd_int ?_
        refine ⟨_, _, _, rfl, rfl, rfl, fun t7 => ?_⟩
        intro _
        refine rd_str e_q_not ?_
        refine ⟨_, _, _, rfl, rfl, rfl, fun t6 => ?_⟩
        refine ⟨_, _, rfl, fun _ => ?_, fun _ => ?_⟩
        · refine rs_ret ?_
          refine rd_notV ?_
          refine rd_call hec hE ?_
          refine ra_cons ?_
          refine rd_op2 o_ix ?_
          refine rd_var rfl ?_
          intro _
          refine rd_int ?_
          refine ⟨_, _, _, rfl, rfl, rfl, fun t10 => ?_⟩
          intro _
          refine ra_cons ?_
          refine rd_var rfl ?_
          intro _
          refine ra_nil ?_
          refine ⟨(t10, x_signs), _, rfl, rfl, rfl, fun r9 => ?_⟩
          refine ⟨_, _, rfl, rfl, fun t8 => ?_⟩
          refine ⟨_, rfl, ?_⟩
          exact ⟨_, rfl, rfl, trivial⟩
        · refine rs_next ?_
          refine rs_at [some (.f x_rule), some (.f x_signs)] rfl ?_
          refine rs_seq ?_
          refine rs_if ?_
          refine rt_op2B o_eq ?_
          refine rd_op2 o_ix ?_
          refine rd_var rfl ?_
          intro _
          refine rd_int ?_
          refine ⟨_, _, _, rfl, rfl, rfl, fun t12 => ?_⟩
          intro _
          refine rd_str e_q_and ?_
          refine ⟨_, _, _, rfl, rfl, rfl, fun t11 => ?_⟩
          refine ⟨_, _, rfl, fun _ => ?_, fun _ => ?_⟩
          · refine rs_ret ?_
            refine rd_andV (Z := Unit) ?_
            refine rd_call hec hE ?_
            refine ra_cons ?_
            refine rd_op2 o_ix ?_
            refine rd_var rfl ?_
            intro _
            refine rd_int ?_
            refine ⟨_, _, _, rfl, rfl, rfl, fun t16 => ?_⟩
            intro _
            refine ra_cons ?_
            refine rd_var rfl ?_
            intro _
            refine ra_nil ?_
            refine ⟨(t16, x_signs), _, rfl, rfl, rfl, fun r15 => ?_⟩
            refine ⟨_, _, rfl, rfl, fun t13 => ⟨fun z => [some (.f x_rule), some (.f x_signs)], (), _, _, rfl, ⟨.inr rfl, ⟨.inr rfl, trivial⟩⟩, fun _ => ?_, fun p14 => ?_⟩⟩
            · refine rd_call hec hE ?_
              refine ra_cons ?_
              refine rd_op2 o_ix ?_
              refine rd_var rfl ?_
              intro _
              refine rd_int ?_
              refine ⟨_, _, _, rfl, rfl, rfl, fun t18 => ?_⟩
              intro _
              refine ra_cons ?_
              refine rd_var rfl ?_
              intro _
              refine ra_nil ?_
              refine ⟨(t18, x_signs), _, rfl, rfl, rfl, fun r17 => ?_⟩
              exact ⟨_, _, rfl, rfl, ⟨.inr rfl, ⟨.inr rfl, trivial⟩⟩⟩
            · refine ⟨_, rfl, ?_⟩
              exact ⟨_, rfl, rfl, trivial⟩
          · refine rs_next ?_
            refine rs_at [some (.f x_rule), some (.f x_signs)] rfl ?_
            refine rs_ret ?_
            refine rd_orV (Z := Unit) ?_
            refine rd_call hec hE ?_
            refine ra_cons ?_
            refine rd_op2 o_ix ?_
            refine rd_var rfl ?_
            intro _
            refine rd_int ?_
            refine ⟨_, _, _, rfl, rfl, rfl, fun t22 => ?_⟩
            intro _
            refine ra_cons ?_
            refine rd_var rfl ?_
            intro _
            refine ra_nil ?_
            refine ⟨(t22, x_signs), _, rfl, rfl, rfl, fun r21 => ?_⟩
            refine ⟨_, _, rfl, rfl, fun t19 => ⟨fun z => [some (.f x_rule), some (.f x_signs)], (), _, _, rfl, ⟨.inr rfl, ⟨.inr rfl, trivial⟩⟩, fun _ => ?_, fun p20 => ?_⟩⟩
            · refine rd_call hec hE ?_
              refine ra_cons ?_
              refine rd_op2 o_ix ?_
              refine rd_var rfl ?_
              intro _
              refine rd_int ?_
              refine ⟨_, _, _, rfl, rfl, rfl, fun t24 => ?_⟩
              intro _
              refine ra_cons ?_
              refine rd_var rfl ?_
              intro _
              refine ra_nil ?_
              refine ⟨(t24, x_signs), _, rfl, rfl, rfl, fun r23 => ?_⟩
              exact ⟨_, _, rfl, rfl, ⟨.inr rfl, ⟨.inr rfl, trivial⟩⟩⟩
            · refine ⟨_, rfl, ?_⟩
              exact ⟨_, rfl, rfl, trivial⟩
theorem ok_asked_gates (T : Tx K mg) : FnOk P w K mg base (L2.CX P w) 26 T.a_asked_gates T.d_asked_gates ["net", "standing"] (spOf (A := D × D) (R := List D) EC.ec (fun a => [.f a.1, .f a.2]) (fun a => m_asked_gates a.1 a.2) (fun r => .l r) (fun r => [none, none])) := by
  refine T.F_asked_gates.okX sc_asked_gates (fun vs H Q E h => ?_) (fun cdv A outer s H vs Q E hr h => ?_)
  · obtain ⟨a, G, w, _, _, hl, _⟩ := h; exact hl
  · refine ⟨_, (pss_cons (ps_expr (pe_call (ok_need_standing T) (hr.mono (by decide)) (by rfl) T.g_need_standing T.F_need_standing.kp T.b_need_standing .nil (by exact (show Passes (L2.CX P w) _ E from passes_call (takes_of rfl rfl rfl rfl) (fun _ _ _ _ h => h))) (pa_cons (pv 0) (pa_cons (pv 1) pa_nil)))) (pss_cons (ps_set (i := 2) sc_asked_gates.nd rfl (by first | exact .inl rfl | exact .inr rfl) (pe_call (ok_signs_by_name T) (hr.mono (by decide)) (by rfl) T.g_signs_by_name T.F_signs_by_name.kp T.b_signs_by_name .nil (show Passes CX0 _ E from pass0) (pa_cons (pv 0) (pa_cons (pv 1) pa_nil)))) (pss_one (ps_ret (pe_lc (own := [("name", 3), ("rule", 4)]) rfl (by exact sc_asked_gates.nd) (pi_listK (Kf := K) (by rfl) (pe_ix (ix_anyK (Kf := K) (by rfl)) (pv 0) pe_int (fun _ _ => rfl))) blk_asked_gates_0 (fun _ _ _ _ _ => (pg_tupK (Kf := K) (n := 2) (by rfl) rfl (pgs_cons (pg_name (i := 3) sc_asked_gates.nd rfl (by first | exact .inl rfl | exact .inr rfl)) (pgs_cons (pg_name (i := 4) sc_asked_gates.nd rfl (by first | exact .inl rfl | exact .inr rfl)) pgs_nil)))) (fun _ _ _ _ _ => (pts_one (pt_cmpR (op_neM (hu_64 hr)) (pe_call (ok_rule_holds T 24) (hr.mono (by decide)) (by rfl) T.g_rule_holds T.F_rule_holds.kp T.b_rule_holds .nil (show Passes CX0 _ E from pass0) (pa_cons (pv 4) (pa_cons (pv 2) pa_nil))) (pe_cmpR (op_eqM (hu_64 hr)) (pe_dget (hu_1 hr) (pv 2) (pv 3) (fun _ _ => rfl)) pe_str (nomark _)) (nomark _)))) (fun _ _ _ _ _ => (pv 3))))))), ?_⟩
    refine fn_body (K := K) [] (fun _ => by show (2 : Nat) ≤ 5; decide) (fun _ => by show ∀ k ∈ ([] : List Nat), k < 2; decide) h (fun F a hec hE hK hpv => ?_)
    obtain ⟨x_net, x_standing⟩ := a
    show RS F [] [some (.f x_net), some (.f x_standing), none, none, none] (m_asked_gates x_net x_standing) _ _ _
    unfold m_asked_gates
    refine rs_seq ?_
    refine rs_drop ?_
    refine rd_call hec hE ?_
    refine ra_cons ?_
    refine rd_var rfl ?_
    intro _
    refine ra_cons ?_
    refine rd_var rfl ?_
    intro _
    refine ra_nil ?_
    refine ⟨(x_net, x_standing), _, rfl, rfl, rfl, fun r1 => ?_⟩
    refine rs_at [some (.f x_net), some (.f x_standing), none, none, none] rfl ?_
    refine rs_seq ?_
    refine rs_set ?_ rfl (hpv _ (by decide))
    refine rd_fz ?_
    refine rd_call hec hE ?_
    refine ra_cons ?_
    refine rd_var rfl ?_
    intro _
    refine ra_cons ?_
    refine rd_var rfl ?_
    intro _
    refine ra_nil ?_
    refine ⟨(x_net, x_standing), _, rfl, rfl, rfl, fun r2 => ?_⟩
    refine ⟨_, rfl, ?_⟩
    refine ⟨_, rfl, (by show (2 : Nat) < 5; decide), ?_⟩
    refine rs_at [some (.f x_net), some (.f x_standing), some (.f (.dct false r2)), none, none] rfl ?_
    refine rs_ret ?_
    refine rd_lcR [3, 4] (fun i hi => hi) (all2 (hpv _ (by decide)) (hpv _ (by decide))) ?_
    refine ri_lst ?_
    refine rd_op2 o_ix ?_
    refine rd_var rfl ?_
    intro _
    refine rd_int ?_
    refine ⟨_, _, _, rfl, rfl, rfl, fun t6 => ?_⟩
    refine ⟨_, _, rfl, rfl, fun ds5 _ => ?_⟩
    refine ⟨[some (.f x_net), some (.f x_standing), some (.f (.dct false r2)), none, none], _, _, rfl, ⟨.inr rfl, ⟨.inr rfl, ⟨.inr rfl, ⟨.inl rfl, ⟨.inl rfl, trivial⟩⟩⟩⟩⟩, (by first | exact trivial | rfl | exact ⟨rfl, rfl⟩), (all2 rfl rfl), rfl, fun d3 _ _ => ?_, fun ys4 => ?_⟩
    · refine rg_n2 ⟨_, rfl, fun p7 => ?_⟩
      refine rgs_cons (by show (3 : Nat) < 5; decide) rfl (hpv _ (by decide)) ?_
      refine rgs_cons (by show (4 : Nat) < 5; decide) rfl (hpv _ (by decide)) ?_
      refine rgs_nil ?_
      refine rt_op2B o_ne ?_
      refine rd_call hec hE ?_
      refine ra_cons ?_
      refine rd_var rfl ?_
      intro _
      refine ra_cons ?_
      refine rd_var rfl ?_
      intro _
      refine ra_nil ?_
      refine ⟨(p7.2, (.dct false r2)), _, rfl, rfl, rfl, fun r9 => ?_⟩
      intro _
      refine rd_op2B o_eq ?_
      refine rd_dget ?_
      refine rd_var rfl ?_
      intro _
      refine rd_var rfl ?_
      refine ⟨_, _, _, rfl, rfl, rfl, fun t11 => ?_⟩
      intro _
      refine rd_str e_q_1 ?_
      refine ⟨_, _, _, rfl, rfl, rfl, fun t10 => ?_⟩
      refine ⟨_, _, _, rfl, rfl, rfl, fun t8 => ?_⟩
      refine ⟨_, _, rfl, fun _ => ?_, fun _ => ⟨rfl, ⟨.inr rfl, ⟨.inr rfl, ⟨.inr rfl, ⟨.inl rfl, ⟨.inl rfl, trivial⟩⟩⟩⟩⟩⟩⟩
      refine rd_var rfl ?_
      exact ⟨_, rfl, rfl, ⟨.inr rfl, ⟨.inr rfl, ⟨.inr rfl, ⟨.inl rfl, ⟨.inl rfl, trivial⟩⟩⟩⟩⟩⟩
    · refine ⟨_, rfl, ?_⟩
      exact ⟨_, rfl, rfl, trivial⟩
theorem ok_with_turned (T : Tx K mg) : FnOk P w K mg base CX0 1 T.a_with_turned T.d_with_turned ["standing", "place"] (spOf (A := D × D) (R := D) EC.ec (fun a => [.f a.1, .f a.2]) (fun a => m_with_turned a.1 a.2) (fun r => .f r) (fun r => [none, none])) := by
  refine T.F_with_turned.ok sc_with_turned (fun vs H Q E h => ?_) (fun cdv A outer s H vs Q E hr h => ?_)
  · obtain ⟨a, G, w, _, _, hl, _⟩ := h; exact hl
  · refine ⟨_, (pss_one (ps_ret (pe_op op_addA (pe_op op_addA (pe_slice sl_str (pv 0) po_none (po_some (pv 1))) (pe_ix (ix_anyK (Kf := K) (by rfl)) pe_str (pe_callTy call_intA (by rfl) T.n_int PyProof.Rows.boot_int (pa_cons (pe_ix (ix_anyK (Kf := K) (by rfl)) (pv 0) (pv 1) (fun _ _ => rfl)) pa_nil)) (fun _ _ => rfl))) (pe_slice sl_str (pv 0) (po_some (pe_op op_addA (pv 1) pe_int)) po_none)))), ?_⟩
    refine fn_body (K := K) [] (fun _ => by show (2 : Nat) ≤ 2; decide) (fun _ => by show ∀ k ∈ ([] : List Nat), k < 2; decide) h (fun F a hec hE hK hpv => ?_)
    obtain ⟨x_standing, x_place⟩ := a
    show RS F [] [some (.f x_standing), some (.f x_place)] (m_with_turned x_standing x_place) _ _ _
    unfold m_with_turned
    refine rs_ret ?_
    refine rd_op2 o_add ?_
    refine rd_op2 o_add ?_
    refine rd_slS ?_
    refine rd_var rfl ?_
    intro _
    refine ro_none ?_
    refine ro_some ?_
    refine rd_var rfl ?_
    refine ⟨_, _, rfl, rfl, fun t4 => ?_⟩
    refine ⟨_, _, rfl, rfl, fun t3 => ?_⟩
    intro _
    refine rd_op2 o_ix ?_
    refine rd_str e_q_10 ?_
    intro _
    refine rd_cb1 o_int ?_
    refine rd_op2 o_ix ?_
    refine rd_var rfl ?_
    intro _
    refine rd_var rfl ?_
    refine ⟨_, _, _, rfl, rfl, rfl, fun t7 => ?_⟩
    refine ⟨_, _, rfl, rfl, fun t6 => ?_⟩
    refine ⟨_, _, _, rfl, rfl, rfl, fun t5 => ?_⟩
    refine ⟨_, _, _, rfl, rfl, rfl, fun t2 => ?_⟩
    intro _
    refine rd_slS ?_
    refine rd_var rfl ?_
    intro _
    refine ro_some ?_
    refine rd_op2 o_add ?_
    refine rd_var rfl ?_
    intro _
    refine rd_int ?_
    refine ⟨_, _, _, rfl, rfl, rfl, fun t10 => ?_⟩
    refine ⟨_, _, rfl, rfl, fun t9 => ?_⟩
    refine ro_none ?_
    refine ⟨_, _, rfl, rfl, fun t8 => ?_⟩
    refine ⟨_, _, _, rfl, rfl, rfl, fun t1 => ?_⟩
    refine ⟨_, rfl, ?_⟩
    exact ⟨_, rfl, rfl, trivial⟩
theorem ok_switch_gate (T : Tx K mg) : FnOk P w K mg base (L2.CX P w) 27 T.a_switch_gate T.d_switch_gate ["net", "standing", "name"] (spOf (A := D × D × D) (R := D) EC.ec (fun a => [.f a.1, .f a.2.1, .f a.2.2]) (fun a => m_switch_gate a.1 a.2.1 a.2.2) (fun r => .f r) (fun r => [none, none, none])) := by
  refine T.F_switch_gate.okX sc_switch_gate (fun vs H Q E h => ?_) (fun cdv A outer s H vs Q E hr h => ?_)
  · obtain ⟨a, G, w, _, _, hl, _⟩ := h; exact hl
  · refine ⟨_, (pss_cons (ps_if (pt_cmpR (op_notInK (Kf := K) (by rfl)) (pv 2) (pe_call (ok_asked_gates T) (hr.mono (by decide)) (by rfl) T.g_asked_gates T.F_asked_gates.kp T.b_asked_gates .nil (by exact (show Passes (L2.CX P w) _ E from passes_call (takes_of rfl rfl rfl rfl) (fun _ _ _ _ h => h))) (pa_cons (pv 0) (pa_cons (pv 1) pa_nil))) rfl) (pss_one (ps_raise rfl (takes_of rfl rfl rfl rfl) (pmk_oex T.xo T.xi T.xit (ok_init T) (hr.mono (by decide)) T.b_init .nil (show Passes CX0 _ (fun _ _ _ => False) from pass0) rfl T.xg_6 (pa_cons pe_non pa_nil)))) pss_nil) (pss_one (ps_ret (pe_call (ok_with_turned T) (hr.mono (by decide)) (by rfl) T.g_with_turned T.F_with_turned.kp T.b_with_turned .nil (show Passes CX0 _ E from pass0) (pa_cons (pv 1) (pa_cons (pe_bmK (Kf := K) (by rfl) PySem.F.plainAttrs_list PySem.F.slot_list_index PySem.F.type_list_index (mt_indexK (Kf := K) (by rfl)) (pe_call (ok_wires_of T) (hr.mono (by decide)) (by rfl) T.g_wires_of T.F_wires_of.kp T.b_wires_of .nil (show Passes CX0 _ E from pass0) (pa_cons (pv 0) pa_nil)) (pa_cons (pv 2) pa_nil)) pa_nil)))))), ?_⟩
    refine fn_body (K := K) [] (fun _ => by show (3 : Nat) ≤ 3; decide) (fun _ => by show ∀ k ∈ ([] : List Nat), k < 3; decide) h (fun F a hec hE hK hpv => ?_)
    obtain ⟨x_net, x_standing, x_name⟩ := a
    show RS F [] [some (.f x_net), some (.f x_standing), some (.f x_name)] (m_switch_gate x_net x_standing x_name) _ _ _
    unfold m_switch_gate
    refine rs_seq ?_
    refine rs_if ?_
    refine rt_op2B o_notIn ?_
    refine rd_var rfl ?_
    intro _
    refine rd_call hec hE ?_
    refine ra_cons ?_
    refine rd_var rfl ?_
    intro _
    refine ra_cons ?_
    refine rd_var rfl ?_
    intro _
    refine ra_nil ?_
    refine ⟨(x_net, x_standing), _, rfl, rfl, rfl, fun r2 => ?_⟩
    refine ⟨_, _, _, rfl, rfl, rfl, fun t1 => ?_⟩
    refine ⟨_, _, rfl, fun _ => ?_, fun _ => ?_⟩
    · refine rs_raiseAt (k := 6) hE (by rw [hec]) T.xo (T.xf.one 6 (by decide)).no ?_
      refine rd_non ?_
      exact ⟨_, rfl, rfl⟩
    · refine rs_next ?_
      refine rs_at [some (.f x_net), some (.f x_standing), some (.f x_name)] rfl ?_
      refine rs_ret ?_
      refine rd_call hec hE ?_
      refine ra_cons ?_
      refine rd_var rfl ?_
      intro _
      refine ra_cons ?_
      refine rd_idx ?_
      refine rd_call hec hE ?_
      refine ra_cons ?_
      refine rd_var rfl ?_
      intro _
      refine ra_nil ?_
      refine ⟨(x_net), _, rfl, rfl, rfl, fun r6 => ?_⟩
      refine ⟨_, _, rfl, rfl, fun t5 _ => ?_⟩
      refine rd_var rfl ?_
      refine ⟨_, _, _, rfl, rfl, rfl, fun t4 => ?_⟩
      intro _
      refine ra_nil ?_
      refine ⟨(x_standing, t4), _, rfl, rfl, rfl, fun r3 => ?_⟩
      refine ⟨_, rfl, ?_⟩
      exact ⟨_, rfl, rfl, trivial⟩
theorem ok_calmed_in (T : Tx K mg) : FnOk P w K mg base (L2.CX P w) 28 T.a_calmed_in T.d_calmed_in ["net", "standing"] (spOf (A := D × D) (R := D) EC.ec (fun a => [.f a.1, .f a.2]) (fun a => m_calmed_in a.1 a.2) (fun r => .f r) (fun r => [none, none])) := by
  refine T.F_calmed_in.okX sc_calmed_in (fun vs H Q E h => ?_) (fun cdv A outer s H vs Q E hr h => ?_)
  · obtain ⟨a, G, w, _, _, hl, _⟩ := h; exact hl
  · refine ⟨_, (pss_cons (ps_set (i := 2) sc_calmed_in.nd rfl (by first | exact .inl rfl | exact .inr rfl) (pe_call (ok_asked_gates T) (hr.mono (by decide)) (by rfl) T.g_asked_gates T.F_asked_gates.kp T.b_asked_gates .nil (by exact (show Passes (L2.CX P w) _ E from passes_call (takes_of rfl rfl rfl rfl) (fun _ _ _ _ h => h))) (pa_cons (pv 0) (pa_cons (pv 1) pa_nil)))) (pss_cons (ps_for (passes_of rfl) rfl (pi_listK (Kf := K) (by rfl) (pv 2)) (pg_name (i := 3) sc_calmed_in.nd rfl (by first | exact .inl rfl | exact .inr rfl)) (pss_one (ps_for (passes_of rfl) rfl (pi_listK (Kf := K) (by rfl) (pv 2)) (pg_name (i := 4) sc_calmed_in.nd rfl (by first | exact .inl rfl | exact .inr rfl)) (pss_one (ps_if (pw_and (pt_cmpR (op_neM (hu_64 hr)) (pv 4) (pv 3) (nomark _)) (pw_and1 (pt_cmpR (op_notInK (Kf := K) (by rfl)) (pv 3) (pe_call (ok_asked_gates T) (hr.mono (by decide)) (by rfl) T.g_asked_gates T.F_asked_gates.kp T.b_asked_gates .nil (by exact (show Passes (L2.CX P w) _ E from passes_call (takes_of rfl rfl rfl rfl) (fun _ _ _ _ h => h))) (pa_cons (pv 0) (pa_cons (pe_call (ok_switch_gate T) (hr.mono (by decide)) (by rfl) T.g_switch_gate T.F_switch_gate.kp T.b_switch_gate .nil (by exact (show Passes (L2.CX P w) _ E from passes_call (takes_of rfl rfl rfl rfl) (fun _ _ _ _ h => h))) (pa_cons (pv 0) (pa_cons (pv 1) (pa_cons (pv 4) pa_nil)))) pa_nil))) rfl))).pt (pss_one (ps_ret (pe_tup (pa_cons (pv 3) (pa_cons (pv 4) pa_nil))))) pss_nil))))) (pss_one (ps_ret pe_non)))), ?_⟩
    refine fn_body (K := K) [] (fun _ => by show (2 : Nat) ≤ 5; decide) (fun _ => by show ∀ k ∈ ([] : List Nat), k < 2; decide) h (fun F a hec hE hK hpv => ?_)
    obtain ⟨x_net, x_standing⟩ := a
    show RS F [] [some (.f x_net), some (.f x_standing), none, none, none] (m_calmed_in x_net x_standing) _ _ _
    unfold m_calmed_in
    refine rs_seq ?_
    refine rs_set ?_ rfl (hpv _ (by decide))
    refine rd_fz ?_
    refine rd_call hec hE ?_
    refine ra_cons ?_
    refine rd_var rfl ?_
    intro _
    refine ra_cons ?_
    refine rd_var rfl ?_
    intro _
    refine ra_nil ?_
    refine ⟨(x_net, x_standing), _, rfl, rfl, rfl, fun r1 => ?_⟩
    refine ⟨_, rfl, ?_⟩
    refine ⟨_, rfl, (by show (2 : Nat) < 5; decide), ?_⟩
    refine rs_at [some (.f x_net), some (.f x_standing), some (.f (.lst r1)), none, none] rfl ?_
    refine rs_seq ?_
    refine rs_for (Z := Unit) (R' := D) [3] ?_
    refine ri_lst ?_
    refine rd_var rfl ?_
    refine ⟨_, _, rfl, rfl, fun ds4 _ => ?_⟩
    refine ⟨fun z3 => [some (.f x_net), some (.f x_standing), some (.f (.lst r1)), none, none], _, _, _, rfl, ⟨.inr rfl, ⟨.inr rfl, ⟨.inr rfl, ⟨.inl rfl, ⟨.inl rfl, trivial⟩⟩⟩⟩⟩, fun _ => (by first | exact trivial | rfl | exact ⟨rfl, rfl⟩), fun z3 d2 => ?_, fun z3 => ?_⟩
    · refine rg_name (by show (3 : Nat) < 5; decide) rfl (hpv _ (by decide)) ?_
      refine rs_at [some (.f x_net), some (.f x_standing), some (.f (.lst r1)), some (.f d2), none] rfl ?_
      refine rs_for (Z := Unit) (R' := D) [4] ?_
      refine ri_lst ?_
      refine rd_var rfl ?_
      refine ⟨_, _, rfl, rfl, fun ds7 _ => ?_⟩
      refine ⟨fun z6 => [some (.f x_net), some (.f x_standing), some (.f (.lst r1)), some (.f d2), none], _, _, _, rfl, ⟨.inr rfl, ⟨.inr rfl, ⟨.inr rfl, ⟨.inr rfl, ⟨.inl rfl, trivial⟩⟩⟩⟩⟩, fun _ => (by first | exact trivial | rfl | exact ⟨rfl, rfl⟩), fun z6 d5 => ?_, fun z6 => ?_⟩
      · refine rg_name (by show (4 : Nat) < 5; decide) rfl (hpv _ (by decide)) ?_
        refine rs_at [some (.f x_net), some (.f x_standing), some (.f (.lst r1)), some (.f d2), some (.f d5)] rfl ?_
        refine rs_if ?_
        refine rt_and (Z := Unit) ?_
        refine rt_op2B o_ne ?_
        refine rd_var rfl ?_
        intro _
        refine rd_var rfl ?_
        refine ⟨_, _, _, rfl, rfl, rfl, fun t9 => ?_⟩
        refine ⟨fun z => [some (.f x_net), some (.f x_standing), some (.f (.lst r1)), some (.f d2), some (.f d5)], (), _, _, rfl, ⟨.inr rfl, ⟨.inr rfl, ⟨.inr rfl, ⟨.inr rfl, ⟨.inr rfl, trivial⟩⟩⟩⟩⟩, fun _ => ?_, fun p8 => ?_⟩
        · refine rt_op2B o_notIn ?_
          refine rd_var rfl ?_
          intro _
          refine rd_call hec hE ?_
          refine ra_cons ?_
          refine rd_var rfl ?_
          intro _
          refine ra_cons ?_
          refine rd_call hec hE ?_
          refine ra_cons ?_
          refine rd_var rfl ?_
          intro _
          refine ra_cons ?_
          refine rd_var rfl ?_
          intro _
          refine ra_cons ?_
          refine rd_var rfl ?_
          intro _
          refine ra_nil ?_
          refine ⟨(x_net, x_standing, d5), _, rfl, rfl, rfl, fun r12 => ?_⟩
          intro _
          refine ra_nil ?_
          refine ⟨(x_net, r12), _, rfl, rfl, rfl, fun r11 => ?_⟩
          refine ⟨_, _, _, rfl, rfl, rfl, fun t10 => ?_⟩
          exact ⟨_, rfl, ⟨.inr rfl, ⟨.inr rfl, ⟨.inr rfl, ⟨.inr rfl, ⟨.inr rfl, trivial⟩⟩⟩⟩⟩⟩
        · refine ⟨_, _, rfl, fun _ => ?_, fun _ => ?_⟩
          · refine rs_ret ?_
            refine rd_tup ?_
            refine ra_cons ?_
            refine rd_var rfl ?_
            intro _
            refine ra_cons ?_
            refine rd_var rfl ?_
            intro _
            refine ra_nil ?_
            refine ⟨[d2, d5], rfl, (by show (2 : Nat) ≤ 1000; decide), ?_⟩
            refine ⟨_, rfl, ?_⟩
            exact ⟨_, rfl, ⟨_, rfl, ⟨_, rfl, rfl, trivial⟩⟩⟩
          · refine rs_next ?_
            exact ⟨_, rfl, ⟨.inr rfl, ⟨.inr rfl, ⟨.inr rfl, ⟨.inr rfl, ⟨.inl rfl, trivial⟩⟩⟩⟩⟩⟩
      · exact ⟨_, rfl, ⟨.inr rfl, ⟨.inr rfl, ⟨.inr rfl, ⟨.inl rfl, ⟨.inl rfl, trivial⟩⟩⟩⟩⟩⟩
    · refine rs_at [some (.f x_net), some (.f x_standing), some (.f (.lst r1)), none, none] rfl ?_
      refine rs_onN ?_
      refine rs_ret ?_
      refine rd_non ?_
      refine ⟨_, rfl, ?_⟩
      exact ⟨_, rfl, rfl, trivial⟩
theorem ok_first_race (T : Tx K mg) : FnOk P w K mg base (L2.CX P w) 29 T.a_first_race T.d_first_race ["net", "standing"] (spOf (A := D × D) (R := D) EC.ec (fun a => [.f a.1, .f a.2]) (fun a => m_first_race a.1 a.2) (fun r => .f r) (fun r => [none, none])) := by
  refine T.F_first_race.okX sc_first_race (fun vs H Q E h => ?_) (fun cdv A outer s H vs Q E hr h => ?_)
  · obtain ⟨a, G, w, _, _, hl, _⟩ := h; exact hl
  · refine ⟨_, (pss_cons (ps_expr (pe_call (ok_asked_gates T) (hr.mono (by decide)) (by rfl) T.g_asked_gates T.F_asked_gates.kp T.b_asked_gates .nil (by exact (show Passes (L2.CX P w) _ E from passes_call (takes_of rfl rfl rfl rfl) (fun _ _ _ _ h => h))) (pa_cons (pv 0) (pa_cons (pv 1) pa_nil)))) (pss_cons (ps_set (i := 2) sc_first_race.nd rfl (by first | exact .inl rfl | exact .inr rfl) (pe_lst (pa_cons (pe_tup (pa_cons (pv 1) (pa_cons (pe_lst pa_nil) pa_nil))) pa_nil))) (pss_cons (ps_set (i := 3) sc_first_race.nd rfl (by first | exact .inl rfl | exact .inr rfl) (pe_disp (pps_cons (pv 1) pe_bl pps_nil) (by rfl) (by rfl) (fun z => by cases z) (by decide))) (pss_cons (ps_set (i := 4) sc_first_race.nd rfl (by first | exact .inl rfl | exact .inr rfl) pe_int) (pss_cons (ps_while (passes_of rfl) (pt_cmpR op_ltA (pv 4) (pe_callB (call_lenK (Kf := K) (by rfl)) (by rfl) T.n_len PySem.boot_len (pa_cons (pv 2) pa_nil)) (nomark _)) (pss_cons (ps_asg (pe_ix (ix_anyK (Kf := K) (by rfl)) (pv 2) (pv 4) (fun _ _ => rfl)) (pg_tupK (Kf := K) (n := 2) (by rfl) rfl (pgs_cons (pg_name (i := 7) sc_first_race.nd rfl (by first | exact .inl rfl | exact .inr rfl)) (pgs_cons (pg_name (i := 8) sc_first_race.nd rfl (by first | exact .inl rfl | exact .inr rfl)) pgs_nil)))) (pss_cons (ps_aug (i := 4) sc_first_race.nd rfl (by first | exact .inl rfl | exact .inr rfl) pe_int ip_add) (pss_cons (ps_set (i := 5) sc_first_race.nd rfl (by first | exact .inl rfl | exact .inr rfl) (pe_call (ok_calmed_in T) (hr.mono (by decide)) (by rfl) T.g_calmed_in T.F_calmed_in.kp T.b_calmed_in .nil (by exact (show Passes (L2.CX P w) _ E from passes_call (takes_of rfl rfl rfl rfl) (fun _ _ _ _ h => h))) (pa_cons (pv 0) (pa_cons (pv 7) pa_nil)))) (pss_cons (ps_if (pt_cmpR op_notN (pv 5) pe_non (nomark _)) (pss_one (ps_ret (pe_tup (pa_cons (pv 8) (pa_cons (pe_ix (ix_anyK (Kf := K) (by rfl)) (pv 5) pe_int (fun _ _ => rfl)) (pa_cons (pe_ix (ix_anyK (Kf := K) (by rfl)) (pv 5) pe_int (fun _ _ => rfl)) pa_nil)))))) pss_nil) (pss_one (ps_for (passes_of rfl) rfl (pi_listK (Kf := K) (by rfl) (pe_call (ok_asked_gates T) (hr.mono (by decide)) (by rfl) T.g_asked_gates T.F_asked_gates.kp T.b_asked_gates .nil (by exact (show Passes (L2.CX P w) _ E from passes_call (takes_of rfl rfl rfl rfl) (fun _ _ _ _ h => h))) (pa_cons (pv 0) (pa_cons (pv 7) pa_nil)))) (pg_name (i := 6) sc_first_race.nd rfl (by first | exact .inl rfl | exact .inr rfl)) (pss_cons (ps_set (i := 9) sc_first_race.nd rfl (by first | exact .inl rfl | exact .inr rfl) (pe_call (ok_switch_gate T) (hr.mono (by decide)) (by rfl) T.g_switch_gate T.F_switch_gate.kp T.b_switch_gate .nil (by exact (show Passes (L2.CX P w) _ E from passes_call (takes_of rfl rfl rfl rfl) (fun _ _ _ _ h => h))) (pa_cons (pv 0) (pa_cons (pv 7) (pa_cons (pv 6) pa_nil))))) (pss_one (ps_if (pt_cmp (pc_dnotin (hu_1 hr) (pv 9) (pv 3))) (pss_cons (ps_dput (hu_1 hr) (pv 3) (pv 9) pe_bl (by rfl)) (pss_one (ps_expr (pe_bmK (Kf := K) (by rfl) PySem.F.plainAttrs_list PySem.F.slot_list_append PySem.F.type_list_append mt_append (pv 2) (pa_cons (pe_tup (pa_cons (pv 9) (pa_cons (pe_op op_catR (pv 8) (pe_lst (pa_cons (pv 6) pa_nil))) pa_nil))) pa_nil))))) pss_nil)))))))))) (pss_one (ps_ret pe_non))))))), ?_⟩
    refine fn_body (K := K) [] (fun _ => by show (2 : Nat) ≤ 10; decide) (fun _ => by show ∀ k ∈ ([] : List Nat), k < 2; decide) h (fun F a hec hE hK hpv => ?_)
    obtain ⟨x_net, x_standing⟩ := a
    show RS F [] [some (.f x_net), some (.f x_standing), none, none, none, none, none, none, none, none] (m_first_race x_net x_standing) _ _ _
    unfold m_first_race
    refine rs_seq ?_
    refine rs_drop ?_
    refine rd_call hec hE ?_
    refine ra_cons ?_
    refine rd_var rfl ?_
    intro _
    refine ra_cons ?_
    refine rd_var rfl ?_
    intro _
    refine ra_nil ?_
    refine ⟨(x_net, x_standing), _, rfl, rfl, rfl, fun r1 => ?_⟩
    refine rs_at [some (.f x_net), some (.f x_standing), none, none, none, none, none, none, none, none] rfl ?_
    refine rs_seq ?_
    refine rs_set ?_ rfl (hpv _ (by decide))
    refine rd_lst ?_
    refine ra_cons ?_
    refine rd_tup ?_
    refine ra_cons ?_
    refine rd_var rfl ?_
    intro _
    refine ra_cons ?_
    refine rd_fz ?_
    refine rd_lst ?_
    refine ra_nil ?_
    refine ⟨[], rfl, (by show (0 : Nat) ≤ 1000; decide), ?_⟩
    refine ⟨_, rfl, ?_⟩
    intro _
    refine ra_nil ?_
    refine ⟨[x_standing, (.lst [])], rfl, (by show (2 : Nat) ≤ 1000; decide), ?_⟩
    intro _
    refine ra_nil ?_
    refine ⟨[(.tup [x_standing, (.lst [])])], rfl, (by show (1 : Nat) ≤ 1000; decide), ?_⟩
    refine ⟨_, rfl, (by show (2 : Nat) < 10; decide), ?_⟩
    refine rs_at [some (.f x_net), some (.f x_standing), some (.l [(.tup [x_standing, (.lst [])])]), none, none, none, none, none, none, none] rfl ?_
    refine rs_seq ?_
    refine rs_set ?_ rfl (hpv _ (by decide))
    refine rd_disp1 (fun _ => ?_)
    refine rd_var rfl ?_
    intro _
    refine rd_bl ?_
    refine ⟨_, _, _, rfl, rfl, rfl, ?_⟩
    refine ⟨_, rfl, (by show (3 : Nat) < 10; decide), ?_⟩
    refine rs_at [some (.f x_net), some (.f x_standing), some (.l [(.tup [x_standing, (.lst [])])]), some (.dc false [(x_standing, (.bl true))]), none, none, none, none, none, none] rfl ?_
    refine rs_seq ?_
    refine rs_set ?_ rfl (hpv _ (by decide))
    refine rd_int ?_
    refine ⟨_, rfl, (by show (4 : Nat) < 10; decide), ?_⟩
    refine rs_at [some (.f x_net), some (.f x_standing), some (.l [(.tup [x_standing, (.lst [])])]), some (.dc false [(x_standing, (.bl true))]), some (.f (.int 0)), none, none, none, none, none] rfl ?_
    refine rs_seq ?_
    refine rs_while FU (fun z2 => [some (.f x_net), some (.f x_standing), some (.l z2.2.2), some (.dc false z2.2.1), some (.f z2.1), none, none, none, none, none]) _ _ _ _ rfl ⟨.inr rfl, ⟨.inr rfl, ⟨.inr rfl, ⟨.inr rfl, ⟨.inr rfl, ⟨.inl rfl, ⟨.inl rfl, ⟨.inl rfl, ⟨.inl rfl, ⟨.inl rfl, trivial⟩⟩⟩⟩⟩⟩⟩⟩⟩⟩ (fun z2 => ?_) (fun z2 => ?_) (fun z2 => ?_)
    · refine rt_op2B o_lt ?_
      refine rd_var rfl ?_
      intro _
      refine rd_cb1 o_len ?_
      refine rd_ali rfl ?_
      refine ⟨_, _, rfl, rfl, fun t4 => ?_⟩
      refine ⟨_, _, _, rfl, rfl, rfl, fun t3 => ?_⟩
      exact ⟨rfl, ⟨.inr rfl, ⟨.inr rfl, ⟨.inr rfl, ⟨.inr rfl, ⟨.inr rfl, ⟨.inl rfl, ⟨.inl rfl, ⟨.inl rfl, ⟨.inl rfl, ⟨.inl rfl, trivial⟩⟩⟩⟩⟩⟩⟩⟩⟩⟩⟩
    · refine rs_seq ?_
      refine rs_asgG [7, 8] ?_
      refine rd_op2 o_ix ?_
      refine rd_ali rfl ?_
      intro _
      refine rd_var rfl ?_
      refine ⟨_, _, _, rfl, rfl, rfl, fun t5 => ?_⟩
      refine ⟨_, rfl, ?_⟩
      refine rg_n2 ⟨_, rfl, fun p6 => ?_⟩
      refine rgs_cons (by show (7 : Nat) < 10; decide) rfl (hpv _ (by decide)) ?_
      refine rgs_cons (by show (8 : Nat) < 10; decide) rfl (hpv _ (by decide)) ?_
      refine rgs_nil ?_
      refine rs_at [some (.f x_net), some (.f x_standing), some (.l z2.2.2), some (.dc false z2.2.1), some (.f z2.1), none, none, some (.f p6.1), some (.f p6.2), none] rfl ?_
      refine rs_seq ?_
      refine rs_augD rfl rfl (hpv _ (by decide)) ?_
      refine rd_int ?_
      refine ⟨_, _, rfl, rfl, rfl, fun t7 => ?_⟩
      refine rs_at [some (.f x_net), some (.f x_standing), some (.l z2.2.2), some (.dc false z2.2.1), some (.f t7), none, none, some (.f p6.1), some (.f p6.2), none] rfl ?_
      refine rs_seq ?_
      refine rs_set ?_ rfl (hpv _ (by decide))
      refine rd_call hec hE ?_
      refine ra_cons ?_
      refine rd_var rfl ?_
      intro _
      refine ra_cons ?_
      refine rd_var rfl ?_
      intro _
      refine ra_nil ?_
      refine ⟨(x_net, p6.1), _, rfl, rfl, rfl, fun r8 => ?_⟩
      refine ⟨_, rfl, (by show (5 : Nat) < 10; decide), ?_⟩
      refine rs_at [some (.f x_net), some (.f x_standing), some (.l z2.2.2), some (.dc false z2.2.1), some (.f t7), some (.f r8), none, some (.f p6.1), some (.f p6.2), none] rfl ?_
      refine rs_seq ?_
      refine rs_if ?_
      refine rt_op2B o_nn ?_
      refine rd_var rfl ?_
      intro _
      refine rd_non ?_
      refine ⟨_, _, _, rfl, rfl, rfl, fun t9 => ?_⟩
      refine ⟨_, _, rfl, fun _ => ?_, fun _ => ?_⟩
      · refine rs_ret ?_
        refine rd_tup ?_
        refine ra_cons ?_
        refine rd_var rfl ?_
        intro _
        refine ra_cons ?_
        refine rd_op2 o_ix ?_
        refine rd_var rfl ?_
        intro _
        refine rd_int ?_
        refine ⟨_, _, _, rfl, rfl, rfl, fun t10 => ?_⟩
        intro _
        refine ra_cons ?_
        refine rd_op2 o_ix ?_
        refine rd_var rfl ?_
        intro _
        refine rd_int ?_
        refine ⟨_, _, _, rfl, rfl, rfl, fun t11 => ?_⟩
        intro _
        refine ra_nil ?_
        refine ⟨[p6.2, t10, t11], rfl, (by show (3 : Nat) ≤ 1000; decide), ?_⟩
        refine ⟨_, rfl, ?_⟩
        exact ⟨_, rfl, ⟨_, rfl, rfl, trivial⟩⟩
      · refine rs_next ?_
        refine rs_at [some (.f x_net), some (.f x_standing), some (.l z2.2.2), some (.dc false z2.2.1), some (.f t7), some (.f r8), none, some (.f p6.1), some (.f p6.2), none] rfl ?_
        refine rs_forN (Z := ((List (D × D)) × (List D))) [6] ?_
        refine ri_lst ?_
        refine rd_call hec hE ?_
        refine ra_cons ?_
        refine rd_var rfl ?_
        intro _
        refine ra_cons ?_
        refine rd_var rfl ?_
        intro _
        refine ra_nil ?_
        refine ⟨(x_net, p6.1), _, rfl, rfl, rfl, fun r15 => ?_⟩
        refine ⟨_, _, rfl, rfl, fun ds14 _ => ?_⟩
        refine ⟨fun z13 => [some (.f x_net), some (.f x_standing), some (.l z13.2), some (.dc false z13.1), some (.f t7), some (.f r8), none, some (.f p6.1), some (.f p6.2), none], _, _, _, rfl, ⟨.inr rfl, ⟨.inr rfl, ⟨.inr rfl, ⟨.inr rfl, ⟨.inr rfl, ⟨.inr rfl, ⟨.inl rfl, ⟨.inr rfl, ⟨.inr rfl, ⟨.inl rfl, trivial⟩⟩⟩⟩⟩⟩⟩⟩⟩⟩, fun _ => (by first | exact trivial | rfl | exact ⟨rfl, rfl⟩), fun z13 d12 => ?_, fun z13 => ?_⟩
        · refine rg_name (by show (6 : Nat) < 10; decide) rfl (hpv _ (by decide)) ?_
          refine rs_at [some (.f x_net), some (.f x_standing), some (.l z13.2), some (.dc false z13.1), some (.f t7), some (.f r8), some (.f d12), some (.f p6.1), some (.f p6.2), none] rfl ?_
          refine rs_seq ?_
          refine rs_set ?_ rfl (hpv _ (by decide))
          refine rd_call hec hE ?_
          refine ra_cons ?_
          refine rd_var rfl ?_
          intro _
          refine ra_cons ?_
          refine rd_var rfl ?_
          intro _
          refine ra_cons ?_
          refine rd_var rfl ?_
          intro _
          refine ra_nil ?_
          refine ⟨(x_net, p6.1, d12), _, rfl, rfl, rfl, fun r16 => ?_⟩
          refine ⟨_, rfl, (by show (9 : Nat) < 10; decide), ?_⟩
          refine rs_at [some (.f x_net), some (.f x_standing), some (.l z13.2), some (.dc false z13.1), some (.f t7), some (.f r8), some (.f d12), some (.f p6.1), some (.f p6.2), some (.f r16)] rfl ?_
          refine rs_if ?_
          refine rt_dnotin ?_
          refine rd_var rfl ?_
          intro _
          refine rd_ali rfl ?_
          refine ⟨_, _, _, rfl, rfl, rfl, fun t17 => ?_⟩
          refine ⟨_, _, rfl, fun _ => ?_, fun _ => ?_⟩
          · refine rs_seq ?_
            refine rs_dput ?_
            refine rd_bl ?_
            refine ⟨_, rfl, fun _ => ?_⟩
            refine rd_ali rfl ?_
            refine ⟨3, rfl, fun _ => ?_⟩
            refine rd_var rfl ?_
            refine ⟨_, _, _, _, rfl, rfl, rfl, fun t18 => ?_⟩
            refine rs_at [some (.f x_net), some (.f x_standing), some (.l z13.2), some (.dc false t18), some (.f t7), some (.f r8), some (.f d12), some (.f p6.1), some (.f p6.2), some (.f r16)] rfl ?_
            refine rs_drop ?_
            refine rd_append ?_
            refine rd_ali rfl ?_
            refine ⟨2, _, rfl, rfl, fun _ => ?_⟩
            refine rd_tup ?_
            refine ra_cons ?_
            refine rd_var rfl ?_
            intro _
            refine ra_cons ?_
            refine rd_fz ?_
            refine rd_op2L o_cat ?_
            refine rd_var rfl ?_
            intro _
            refine rd_lst ?_
            refine ra_cons ?_
            refine rd_var rfl ?_
            intro _
            refine ra_nil ?_
            refine ⟨[d12], rfl, (by show (1 : Nat) ≤ 1000; decide), ?_⟩
            refine ⟨_, _, _, rfl, rfl, rfl, fun t20 => ?_⟩
            refine ⟨_, rfl, ?_⟩
            intro _
            refine ra_nil ?_
            refine ⟨[r16, (.lst t20)], rfl, (by show (2 : Nat) ≤ 1000; decide), ?_⟩
            refine ⟨_, _, _, rfl, rfl, rfl, fun t19 => ?_⟩
            exact ⟨_, rfl, ⟨.inr rfl, ⟨.inr rfl, ⟨.inr rfl, ⟨.inr rfl, ⟨.inr rfl, ⟨.inr rfl, ⟨.inl rfl, ⟨.inr rfl, ⟨.inr rfl, ⟨.inl rfl, trivial⟩⟩⟩⟩⟩⟩⟩⟩⟩⟩⟩
          · refine rs_next ?_
            exact ⟨_, rfl, ⟨.inr rfl, ⟨.inr rfl, ⟨.inr rfl, ⟨.inr rfl, ⟨.inr rfl, ⟨.inr rfl, ⟨.inl rfl, ⟨.inr rfl, ⟨.inr rfl, ⟨.inl rfl, trivial⟩⟩⟩⟩⟩⟩⟩⟩⟩⟩⟩
        · exact ⟨_, rfl, ⟨.inr rfl, ⟨.inr rfl, ⟨.inr rfl, ⟨.inr rfl, ⟨.inr rfl, ⟨.inl rfl, ⟨.inl rfl, ⟨.inl rfl, ⟨.inl rfl, ⟨.inl rfl, trivial⟩⟩⟩⟩⟩⟩⟩⟩⟩⟩⟩
    · refine rs_at [some (.f x_net), some (.f x_standing), some (.l z2.2.2), some (.dc false z2.2.1), some (.f z2.1), none, none, none, none, none] rfl ?_
      refine rs_onN ?_
      refine rs_ret ?_
      refine rd_non ?_
      refine ⟨_, rfl, ?_⟩
      exact ⟨_, rfl, rfl, trivial⟩
theorem okE__law_class (T : Tx K mg) : FnE P w K mg base 4 T.a__law_class T.d__law_class ["e"] (.ref (EC.ec 1)) (fun a vs H Q _ => vs = [.ref a] ∧ ∀ H1 : Hp, (∀ b o, H b = some o → H1 b = some o) → Q (.str (mkS q_standing)) H1) := by
  refine fnE_by T.F__law_class sc__law_class (fun a vs H Q E h => by rw [h.1]; rfl) (fun cdv A outer s H vs Q E p hz hf hr h => ?_)
  obtain ⟨rfl, hq⟩ := h
  refine ⟨_, (pss_cons (ps_if (pw_or (pt_not (pt_val (pe_callB (call_isP (Kf := K) (by rfl) (p := p) List.mem_cons_self hz hf (T.xf.one 1 (by decide))) (by rfl) T.n_isinstance PyProof.Rows.boot_isinstance (pa_cons (pv 0) (pa_cons (pe_bltn (v := .ty "ValueError") (u := .type "ValueError") (by rfl) T.n_ValueError (by decide +kernel) rfl) pa_nil))))) (pw_or1 (pt_not (pt_val (pe_callB (call_isP (Kf := K) (by rfl) (p := p) List.mem_cons_self hz hf (T.xf.one 1 (by decide))) (by rfl) T.n_isinstance PyProof.Rows.boot_isinstance (pa_cons (pv 0) (pa_cons (pe_glob (v := .ref (EC.ec 1)) (by rfl) T.xg_1 rfl) pa_nil))))))).pt (pss_one (ps_ret pe_str)) pss_nil) (pss_cons (ps_if (pt_val (pe_callB (call_isPT (Kf := K) (by rfl) (p := p) List.mem_cons_self hz hf (T.xf.one 1 (by decide))) (by rfl) T.n_isinstance PyProof.Rows.boot_isinstance (pa_cons (pv 0) (pa_cons (pe_tup (pa_cons (pe_glob (v := .ref (EC.ec 2)) (by rfl) T.xg_2 rfl) (pa_cons (pe_glob (v := .ref (EC.ec 3)) (by rfl) T.xg_3 rfl) (pa_cons (pe_glob (v := .ref (EC.ec 4)) (by rfl) T.xg_4 rfl) (pa_cons (pe_glob (v := .ref (EC.ec 5)) (by rfl) T.xg_5 rfl) (pa_cons (pe_glob (v := .ref (EC.ec 6)) (by rfl) T.xg_6 rfl) pa_nil)))))) pa_nil)))) (pss_one (ps_ret pe_str)) pss_nil) (pss_one (ps_ret pe_str)))), ?_⟩
  have hj : ∀ j ∈ [2, 3, 4, 5, 6], j ∈ [0, 1, 2, 3, 4, 5, 6] := by decide
  refine ⟨.ref p.1, rfl, _, _, true, rfl, .ty _, (T.xf.one 1 (by decide)).kv, true, rfl, ?_⟩
  simp only [Bool.not_true, Bool.false_eq_true, if_false]
  refine ⟨.ref p.1, rfl, _, _, true, rfl, .own _, T.xf.kit 1 (by decide) 1 (by decide), true, rfl, ?_⟩
  simp only [Bool.not_true, Bool.false_eq_true, if_false]
  refine ⟨.ref p.1, rfl, by rw [sizeLine_eq]; show (5 : Nat) ≤ 16777216; decide, fun tp np => ⟨tp, _, _, false, rfl, upd_same, ec_cls [2, 3, 4, 5, 6], kit_any (f := fun j => isub 1 j) [2, 3, 4, 5, 6] (fun j h => T.xf.kit 1 (by decide) j (hj j h)), false, rfl, ?_⟩⟩
  simp only [Bool.false_eq_true, if_false]
  show Q (.str (PySem.Str.ofString "standing")) _
  rw [e_q_standing]
  exact hq _ fun b o e => by rw [upd_ne (fun z => by rw [z, np] at e; cases e)]; exact e
theorem ok_steps_from (T : Tx K mg) : FnOk P w K mg base (L2.CX P w) 27 T.a_steps_from T.d_steps_from ["net", "standing"] (spOf (A := D × D) (R := List D) EC.ec (fun a => [.f a.1, .f a.2]) (fun a => m_steps_from a.1 a.2) (fun r => .l r) (fun r => [none, none])) := by
  refine T.F_steps_from.okX sc_steps_from (fun vs H Q E h => ?_) (fun cdv A outer s H vs Q E hr h => ?_)
  · obtain ⟨a, G, w, _, _, hl, _⟩ := h; exact hl
  · refine ⟨_, (pss_cons (ps_set (i := 2) sc_steps_from.nd rfl (by first | exact .inl rfl | exact .inr rfl) (pe_call (ok_wires_of T) (hr.mono (by decide)) (by rfl) T.g_wires_of T.F_wires_of.kp T.b_wires_of .nil (show Passes CX0 _ E from pass0) (pa_cons (pv 0) pa_nil))) (pss_cons (ps_set (i := 3) sc_steps_from.nd rfl (by first | exact .inl rfl | exact .inr rfl) (pe_lst pa_nil)) (pss_cons (ps_for (passes_of rfl) rfl (pi_listK (Kf := K) (by rfl) (pe_call (ok_asked_gates T) (hr.mono (by decide)) (by rfl) T.g_asked_gates T.F_asked_gates.kp T.b_asked_gates .nil (by exact (show Passes (L2.CX P w) _ E from passes_call (takes_of rfl rfl rfl rfl) (fun _ _ _ _ h => h))) (pa_cons (pv 0) (pa_cons (pv 1) pa_nil)))) (pg_name (i := 4) sc_steps_from.nd rfl (by first | exact .inl rfl | exact .inr rfl)) (pss_cons (ps_set (i := 5) sc_steps_from.nd rfl (by first | exact .inl rfl | exact .inr rfl) (pe_bmK (Kf := K) (by rfl) PySem.F.plainAttrs_list PySem.F.slot_list_index PySem.F.type_list_index (mt_indexK (Kf := K) (by rfl)) (pv 2) (pa_cons (pv 4) pa_nil))) (pss_one (ps_expr (pe_bmK (Kf := K) (by rfl) PySem.F.plainAttrs_list PySem.F.slot_list_append PySem.F.type_list_append mt_append (pv 3) (pa_cons (pe_tup (pa_cons (pv 4) (pa_cons (pe_op op_addA (pe_op op_addA (pe_slice sl_str (pv 1) po_none (po_some (pv 5))) (pe_ix (ix_anyK (Kf := K) (by rfl)) pe_str (pe_callTy call_intA (by rfl) T.n_int PyProof.Rows.boot_int (pa_cons (pe_ix (ix_anyK (Kf := K) (by rfl)) (pv 1) (pv 5) (fun _ _ => rfl)) pa_nil)) (fun _ _ => rfl))) (pe_slice sl_str (pv 1) (po_some (pe_op op_addA (pv 5) pe_int)) po_none)) pa_nil))) pa_nil)))))) (pss_one (ps_ret (pv 3)))))), ?_⟩
    refine fn_body (K := K) [] (fun _ => by show (2 : Nat) ≤ 6; decide) (fun _ => by show ∀ k ∈ ([] : List Nat), k < 2; decide) h (fun F a hec hE hK hpv => ?_)
    obtain ⟨x_net, x_standing⟩ := a
    show RS F [] [some (.f x_net), some (.f x_standing), none, none, none, none] (m_steps_from x_net x_standing) _ _ _
    unfold m_steps_from
    refine rs_seq ?_
    refine rs_set ?_ rfl (hpv _ (by decide))
    refine rd_fz ?_
    refine rd_call hec hE ?_
    refine ra_cons ?_
    refine rd_var rfl ?_
    intro _
    refine ra_nil ?_
    refine ⟨(x_net), _, rfl, rfl, rfl, fun r1 => ?_⟩
    refine ⟨_, rfl, ?_⟩
    refine ⟨_, rfl, (by show (2 : Nat) < 6; decide), ?_⟩
    refine rs_at [some (.f x_net), some (.f x_standing), some (.f (.lst r1)), none, none, none] rfl ?_
    refine rs_seq ?_
    refine rs_set ?_ rfl (hpv _ (by decide))
    refine rd_lst ?_
    refine ra_nil ?_
    refine ⟨[], rfl, (by show (0 : Nat) ≤ 1000; decide), ?_⟩
    refine ⟨_, rfl, (by show (3 : Nat) < 6; decide), ?_⟩
    refine rs_at [some (.f x_net), some (.f x_standing), some (.f (.lst r1)), some (.l []), none, none] rfl ?_
    refine rs_seq ?_
    refine rs_forN (Z := (List D)) [4] ?_
    refine ri_lst ?_
    refine rd_call hec hE ?_
    refine ra_cons ?_
    refine rd_var rfl ?_
    intro _
    refine ra_cons ?_
    refine rd_var rfl ?_
    intro _
    refine ra_nil ?_
    refine ⟨(x_net, x_standing), _, rfl, rfl, rfl, fun r5 => ?_⟩
    refine ⟨_, _, rfl, rfl, fun ds4 _ => ?_⟩
    refine ⟨fun z3 => [some (.f x_net), some (.f x_standing), some (.f (.lst r1)), some (.l z3), none, none], _, _, _, rfl, ⟨.inr rfl, ⟨.inr rfl, ⟨.inr rfl, ⟨.inr rfl, ⟨.inl rfl, ⟨.inl rfl, trivial⟩⟩⟩⟩⟩⟩, fun _ => (by first | exact trivial | rfl | exact ⟨rfl, rfl⟩), fun z3 d2 => ?_, fun z3 => ?_⟩
    · refine rg_name (by show (4 : Nat) < 6; decide) rfl (hpv _ (by decide)) ?_
      refine rs_at [some (.f x_net), some (.f x_standing), some (.f (.lst r1)), some (.l z3), some (.f d2), none] rfl ?_
      refine rs_seq ?_
      refine rs_set ?_ rfl (hpv _ (by decide))
      refine rd_idx ?_
      refine rd_var rfl ?_
      refine ⟨_, _, rfl, rfl, fun t7 _ => ?_⟩
      refine rd_var rfl ?_
      refine ⟨_, _, _, rfl, rfl, rfl, fun t6 => ?_⟩
      refine ⟨_, rfl, (by show (5 : Nat) < 6; decide), ?_⟩
      refine rs_at [some (.f x_net), some (.f x_standing), some (.f (.lst r1)), some (.l z3), some (.f d2), some (.f t6)] rfl ?_
      refine rs_drop ?_
      refine rd_append ?_
      refine rd_ali rfl ?_
      refine ⟨3, _, rfl, rfl, fun _ => ?_⟩
      refine rd_tup ?_
      refine ra_cons ?_
      refine rd_var rfl ?_
      intro _
      refine ra_cons ?_
      refine rd_op2 o_add ?_
      refine rd_op2 o_add ?_
      refine rd_slS ?_
      refine rd_var rfl ?_
      intro _
      refine ro_none ?_
      refine ro_some ?_
      refine rd_var rfl ?_
      refine ⟨_, _, rfl, rfl, fun t12 => ?_⟩
      refine ⟨_, _, rfl, rfl, fun t11 => ?_⟩
      intro _
      refine rd_op2 o_ix ?_
      refine rd_str e_q_10 ?_
      intro _
      refine rd_cb1 o_int ?_
      refine rd_op2 o_ix ?_
      refine rd_var rfl ?_
      intro _
      refine rd_var rfl ?_
      refine ⟨_, _, _, rfl, rfl, rfl, fun t15 => ?_⟩
      refine ⟨_, _, rfl, rfl, fun t14 => ?_⟩
      refine ⟨_, _, _, rfl, rfl, rfl, fun t13 => ?_⟩
      refine ⟨_, _, _, rfl, rfl, rfl, fun t10 => ?_⟩
      intro _
      refine rd_slS ?_
      refine rd_var rfl ?_
      intro _
      refine ro_some ?_
      refine rd_op2 o_add ?_
      refine rd_var rfl ?_
      intro _
      refine rd_int ?_
      refine ⟨_, _, _, rfl, rfl, rfl, fun t18 => ?_⟩
      refine ⟨_, _, rfl, rfl, fun t17 => ?_⟩
      refine ro_none ?_
      refine ⟨_, _, rfl, rfl, fun t16 => ?_⟩
      refine ⟨_, _, _, rfl, rfl, rfl, fun t9 => ?_⟩
      intro _
      refine ra_nil ?_
      refine ⟨[d2, t9], rfl, (by show (2 : Nat) ≤ 1000; decide), ?_⟩
      refine ⟨_, _, _, rfl, rfl, rfl, fun t8 => ?_⟩
      exact ⟨_, rfl, ⟨.inr rfl, ⟨.inr rfl, ⟨.inr rfl, ⟨.inr rfl, ⟨.inl rfl, ⟨.inl rfl, trivial⟩⟩⟩⟩⟩⟩⟩
    · refine rs_at [some (.f x_net), some (.f x_standing), some (.f (.lst r1)), some (.l z3), none, none] rfl ?_
      refine rs_ret ?_
      refine rd_mv rfl ?_
      refine ⟨_, rfl, ?_⟩
      exact ⟨_, rfl, rfl, trivial⟩
theorem ok_first_orders (T : Tx K mg) : FnOk P w K mg base (L2.CX P w) 28 T.a_first_orders T.d_first_orders ["net", "standing"] (spOf (A := D × D) (R := List (D × D)) EC.ec (fun a => [.f a.1, .f a.2]) (fun a => m_first_orders a.1 a.2) (fun r => .dc false r) (fun r => [none, none])) := by
  refine T.F_first_orders.okX sc_first_orders (fun vs H Q E h => ?_) (fun cdv A outer s H vs Q E hr h => ?_)
  · obtain ⟨a, G, w, _, _, hl, _⟩ := h; exact hl
  · refine ⟨_, (pss_cons (ps_expr (pe_call (ok_asked_gates T) (hr.mono (by decide)) (by rfl) T.g_asked_gates T.F_asked_gates.kp T.b_asked_gates .nil (by exact (show Passes (L2.CX P w) _ E from passes_call (takes_of rfl rfl rfl rfl) (fun _ _ _ _ h => h))) (pa_cons (pv 0) (pa_cons (pv 1) pa_nil)))) (pss_cons (ps_set (i := 2) sc_first_orders.nd rfl (by first | exact .inl rfl | exact .inr rfl) (pe_disp (pps_cons (pv 1) (pe_lst pa_nil) pps_nil) (by rfl) (by rfl) (fun z => by cases z) (by decide))) (pss_cons (ps_set (i := 3) sc_first_orders.nd rfl (by first | exact .inl rfl | exact .inr rfl) (pe_lst (pa_cons (pv 1) pa_nil))) (pss_cons (ps_set (i := 4) sc_first_orders.nd rfl (by first | exact .inl rfl | exact .inr rfl) pe_int) (pss_cons (ps_while (passes_of rfl) (pt_cmpR op_ltA (pv 4) (pe_callB (call_lenK (Kf := K) (by rfl)) (by rfl) T.n_len PySem.boot_len (pa_cons (pv 3) pa_nil)) (nomark _)) (pss_cons (ps_for (passes_of rfl) rfl (pi_listK (Kf := K) (by rfl) (pe_call (ok_steps_from T) (hr.mono (by decide)) (by rfl) T.g_steps_from T.F_steps_from.kp T.b_steps_from .nil (by exact (show Passes (L2.CX P w) _ E from passes_call (takes_of rfl rfl rfl rfl) (fun _ _ _ _ h => h))) (pa_cons (pv 0) (pa_cons (pe_ix (ix_anyK (Kf := K) (by rfl)) (pv 3) (pv 4) (fun _ _ => rfl)) pa_nil)))) (pg_tupK (Kf := K) (n := 2) (by rfl) rfl (pgs_cons (pg_name (i := 5) sc_first_orders.nd rfl (by first | exact .inl rfl | exact .inr rfl)) (pgs_cons (pg_name (i := 6) sc_first_orders.nd rfl (by first | exact .inl rfl | exact .inr rfl)) pgs_nil))) (pss_one (ps_if (pt_cmp (pc_dnotin (hu_1 hr) (pv 6) (pv 2))) (pss_cons (ps_dput (hu_1 hr) (pv 2) (pv 6) (pe_op op_catR (pe_dget (hu_1 hr) (pv 2) (pe_ix (ix_anyK (Kf := K) (by rfl)) (pv 3) (pv 4) (fun _ _ => rfl)) (fun _ _ => rfl)) (pe_lst (pa_cons (pv 5) pa_nil))) (by rfl)) (pss_one (ps_expr (pe_bmK (Kf := K) (by rfl) PySem.F.plainAttrs_list PySem.F.slot_list_append PySem.F.type_list_append mt_append (pv 3) (pa_cons (pv 6) pa_nil))))) pss_nil))) (pss_one (ps_aug (i := 4) sc_first_orders.nd rfl (by first | exact .inl rfl | exact .inr rfl) pe_int ip_add)))) (pss_one (ps_ret (pv 2)))))))), ?_⟩
    refine fn_body (K := K) [] (fun _ => by show (2 : Nat) ≤ 7; decide) (fun _ => by show ∀ k ∈ ([] : List Nat), k < 2; decide) h (fun F a hec hE hK hpv => ?_)
    obtain ⟨x_net, x_standing⟩ := a
    show RS F [] [some (.f x_net), some (.f x_standing), none, none, none, none, none] (m_first_orders x_net x_standing) _ _ _
    unfold m_first_orders
    refine rs_seq ?_
    refine rs_drop ?_
    refine rd_call hec hE ?_
    refine ra_cons ?_
    refine rd_var rfl ?_
    intro _
    refine ra_cons ?_
    refine rd_var rfl ?_
    intro _
    refine ra_nil ?_
    refine ⟨(x_net, x_standing), _, rfl, rfl, rfl, fun r1 => ?_⟩
    refine rs_at [some (.f x_net), some (.f x_standing), none, none, none, none, none] rfl ?_
    refine rs_seq ?_
    refine rs_set ?_ rfl (hpv _ (by decide))
    refine rd_disp1 (fun _ => ?_)
    refine rd_var rfl ?_
    intro _
    refine rd_fz ?_
    refine rd_lst ?_
    refine ra_nil ?_
    refine ⟨[], rfl, (by show (0 : Nat) ≤ 1000; decide), ?_⟩
    refine ⟨_, rfl, ?_⟩
    refine ⟨_, _, _, rfl, rfl, rfl, ?_⟩
    refine ⟨_, rfl, (by show (2 : Nat) < 7; decide), ?_⟩
    refine rs_at [some (.f x_net), some (.f x_standing), some (.dc false [(x_standing, (.lst []))]), none, none, none, none] rfl ?_
    refine rs_seq ?_
    refine rs_set ?_ rfl (hpv _ (by decide))
    refine rd_lst ?_
    refine ra_cons ?_
    refine rd_var rfl ?_
    intro _
    refine ra_nil ?_
    refine ⟨[x_standing], rfl, (by show (1 : Nat) ≤ 1000; decide), ?_⟩
    refine ⟨_, rfl, (by show (3 : Nat) < 7; decide), ?_⟩
    refine rs_at [some (.f x_net), some (.f x_standing), some (.dc false [(x_standing, (.lst []))]), some (.l [x_standing]), none, none, none] rfl ?_
    refine rs_seq ?_
    refine rs_set ?_ rfl (hpv _ (by decide))
    refine rd_int ?_
    refine ⟨_, rfl, (by show (4 : Nat) < 7; decide), ?_⟩
    refine rs_at [some (.f x_net), some (.f x_standing), some (.dc false [(x_standing, (.lst []))]), some (.l [x_standing]), some (.f (.int 0)), none, none] rfl ?_
    refine rs_seq ?_
    refine rs_whileN FU (fun z2 => [some (.f x_net), some (.f x_standing), some (.dc false z2.1), some (.l z2.2.1), some (.f z2.2.2), none, none]) _ _ _ _ rfl ⟨.inr rfl, ⟨.inr rfl, ⟨.inr rfl, ⟨.inr rfl, ⟨.inr rfl, ⟨.inl rfl, ⟨.inl rfl, trivial⟩⟩⟩⟩⟩⟩⟩ (fun z2 => ?_) (fun z2 => ?_) (fun z2 => ?_)
    · refine rt_op2B o_lt ?_
      refine rd_var rfl ?_
      intro _
      refine rd_cb1 o_len ?_
      refine rd_ali rfl ?_
      refine ⟨_, _, rfl, rfl, fun t4 => ?_⟩
      refine ⟨_, _, _, rfl, rfl, rfl, fun t3 => ?_⟩
      exact ⟨rfl, ⟨.inr rfl, ⟨.inr rfl, ⟨.inr rfl, ⟨.inr rfl, ⟨.inr rfl, ⟨.inl rfl, ⟨.inl rfl, trivial⟩⟩⟩⟩⟩⟩⟩⟩
    · refine rs_seq ?_
      refine rs_forN (Z := ((List (D × D)) × (List D))) [5, 6] ?_
      refine ri_lst ?_
      refine rd_call hec hE ?_
      refine ra_cons ?_
      refine rd_var rfl ?_
      intro _
      refine ra_cons ?_
      refine rd_op2 o_ix ?_
      refine rd_ali rfl ?_
      intro _
      refine rd_var rfl ?_
      refine ⟨_, _, _, rfl, rfl, rfl, fun t9 => ?_⟩
      intro _
      refine ra_nil ?_
      refine ⟨(x_net, t9), _, rfl, rfl, rfl, fun r8 => ?_⟩
      refine ⟨_, _, rfl, rfl, fun ds7 _ => ?_⟩
      refine ⟨fun z6 => [some (.f x_net), some (.f x_standing), some (.dc false z6.1), some (.l z6.2), some (.f z2.2.2), none, none], _, _, _, rfl, ⟨.inr rfl, ⟨.inr rfl, ⟨.inr rfl, ⟨.inr rfl, ⟨.inr rfl, ⟨.inl rfl, ⟨.inl rfl, trivial⟩⟩⟩⟩⟩⟩⟩, fun _ => (by first | exact trivial | rfl | exact ⟨rfl, rfl⟩), fun z6 d5 => ?_, fun z6 => ?_⟩
      · refine rg_n2 ⟨_, rfl, fun p10 => ?_⟩
        refine rgs_cons (by show (5 : Nat) < 7; decide) rfl (hpv _ (by decide)) ?_
        refine rgs_cons (by show (6 : Nat) < 7; decide) rfl (hpv _ (by decide)) ?_
        refine rgs_nil ?_
        refine rs_at [some (.f x_net), some (.f x_standing), some (.dc false z6.1), some (.l z6.2), some (.f z2.2.2), some (.f p10.1), some (.f p10.2)] rfl ?_
        refine rs_if ?_
        refine rt_dnotin ?_
        refine rd_var rfl ?_
        intro _
        refine rd_ali rfl ?_
        refine ⟨_, _, _, rfl, rfl, rfl, fun t11 => ?_⟩
        refine ⟨_, _, rfl, fun _ => ?_, fun _ => ?_⟩
        · refine rs_seq ?_
          refine rs_dput ?_
          refine rd_fz ?_
          refine rd_op2L o_cat ?_
          refine rd_dget ?_
          refine rd_ali rfl ?_
          intro _
          refine rd_op2 o_ix ?_
          refine rd_ali rfl ?_
          intro _
          refine rd_var rfl ?_
          refine ⟨_, _, _, rfl, rfl, rfl, fun t15 => ?_⟩
          refine ⟨_, _, _, rfl, rfl, rfl, fun t14 => ?_⟩
          intro _
          refine rd_lst ?_
          refine ra_cons ?_
          refine rd_var rfl ?_
          intro _
          refine ra_nil ?_
          refine ⟨[p10.1], rfl, (by show (1 : Nat) ≤ 1000; decide), ?_⟩
          refine ⟨_, _, _, rfl, rfl, rfl, fun t13 => ?_⟩
          refine ⟨_, rfl, ?_⟩
          refine ⟨_, rfl, fun _ => ?_⟩
          refine rd_ali rfl ?_
          refine ⟨2, rfl, fun _ => ?_⟩
          refine rd_var rfl ?_
          refine ⟨_, _, _, _, rfl, rfl, rfl, fun t12 => ?_⟩
          refine rs_at [some (.f x_net), some (.f x_standing), some (.dc false t12), some (.l z6.2), some (.f z2.2.2), some (.f p10.1), some (.f p10.2)] rfl ?_
          refine rs_drop ?_
          refine rd_append ?_
          refine rd_ali rfl ?_
          refine ⟨3, _, rfl, rfl, fun _ => ?_⟩
          refine rd_var rfl ?_
          refine ⟨_, _, _, rfl, rfl, rfl, fun t16 => ?_⟩
          exact ⟨_, rfl, ⟨.inr rfl, ⟨.inr rfl, ⟨.inr rfl, ⟨.inr rfl, ⟨.inr rfl, ⟨.inl rfl, ⟨.inl rfl, trivial⟩⟩⟩⟩⟩⟩⟩⟩
        · refine rs_next ?_
          exact ⟨_, rfl, ⟨.inr rfl, ⟨.inr rfl, ⟨.inr rfl, ⟨.inr rfl, ⟨.inr rfl, ⟨.inl rfl, ⟨.inl rfl, trivial⟩⟩⟩⟩⟩⟩⟩⟩
      · refine rs_at [some (.f x_net), some (.f x_standing), some (.dc false z6.1), some (.l z6.2), some (.f z2.2.2), none, none] rfl ?_
        refine rs_augD rfl rfl (hpv _ (by decide)) ?_
        refine rd_int ?_
        refine ⟨_, _, rfl, rfl, rfl, fun t17 => ?_⟩
        exact ⟨_, rfl, ⟨.inr rfl, ⟨.inr rfl, ⟨.inr rfl, ⟨.inr rfl, ⟨.inr rfl, ⟨.inl rfl, ⟨.inl rfl, trivial⟩⟩⟩⟩⟩⟩⟩⟩
    · refine rs_at [some (.f x_net), some (.f x_standing), some (.dc false z2.1), some (.l z2.2.1), some (.f z2.2.2), none, none] rfl ?_
      refine rs_ret ?_
      refine rd_mv rfl ?_
      refine ⟨_, rfl, ?_⟩
      exact ⟨_, rfl, rfl, trivial⟩
theorem ok_all_standings (T : Tx K mg) : FnOk P w K mg base (L2.CX P w) 29 T.a_all_standings T.d_all_standings ["net", "standing"] (spOf (A := D × D) (R := List D) EC.ec (fun a => [.f a.1, .f a.2]) (fun a => m_all_standings a.1 a.2) (fun r => .l r) (fun r => [none, none])) := by
  refine T.F_all_standings.okX sc_all_standings (fun vs H Q E h => ?_) (fun cdv A outer s H vs Q E hr h => ?_)
  · obtain ⟨a, G, w, _, _, hl, _⟩ := h; exact hl
  · refine ⟨_, (pss_one (ps_ret (pe_callB (cr_sortedDK (by rfl) (hu_64 hr)) (by rfl) T.n_sorted PyProof.Rows.boot_sorted (pa_cons (pe_call (ok_first_orders T) (hr.mono (by decide)) (by rfl) T.g_first_orders T.F_first_orders.kp T.b_first_orders .nil (by exact (show Passes (L2.CX P w) _ E from passes_call (takes_of rfl rfl rfl rfl) (fun _ _ _ _ h => h))) (pa_cons (pv 0) (pa_cons (pv 1) pa_nil))) pa_nil)))), ?_⟩
    refine fn_body (K := K) [] (fun _ => by show (2 : Nat) ≤ 2; decide) (fun _ => by show ∀ k ∈ ([] : List Nat), k < 2; decide) h (fun F a hec hE hK hpv => ?_)
    obtain ⟨x_net, x_standing⟩ := a
    show RS F [] [some (.f x_net), some (.f x_standing)] (m_all_standings x_net x_standing) _ _ _
    unfold m_all_standings
    refine rs_ret ?_
    refine rd_cb1L o_sortedDK ?_
    refine rd_call hec hE ?_
    refine ra_cons ?_
    refine rd_var rfl ?_
    intro _
    refine ra_cons ?_
    refine rd_var rfl ?_
    intro _
    refine ra_nil ?_
    refine ⟨(x_net, x_standing), _, rfl, rfl, rfl, fun r2 => ?_⟩
    refine ⟨_, _, rfl, rfl, fun t1 => ?_⟩
    refine ⟨_, rfl, ?_⟩
    exact ⟨_, rfl, rfl, trivial⟩
theorem ok_calm_paper (T : Tx K mg) : FnOk P w K mg base (L2.CX P w) 30 T.a_calm_paper T.d_calm_paper ["net", "standing"] (spOf (A := D × D) (R := D) EC.ec (fun a => [.f a.1, .f a.2]) (fun a => m_calm_paper a.1 a.2) (fun r => .f r) (fun r => [none, none])) := by
  refine T.F_calm_paper.okX sc_calm_paper (fun vs H Q E h => ?_) (fun cdv A outer s H vs Q E hr h => ?_)
  · obtain ⟨a, G, w, _, _, hl, _⟩ := h; exact hl
  · refine ⟨_, (pss_cons (ps_if (pt_cmpR op_notN (pe_call (ok_first_race T) (hr.mono (by decide)) (by rfl) T.g_first_race T.F_first_race.kp T.b_first_race .nil (by exact (show Passes (L2.CX P w) _ E from passes_call (takes_of rfl rfl rfl rfl) (fun _ _ _ _ h => h))) (pa_cons (pv 0) (pa_cons (pv 1) pa_nil))) pe_non (nomark _)) (pss_one (ps_ret pe_non)) pss_nil) (pss_one (ps_ret (pe_call (ok_all_standings T) (hr.mono (by decide)) (by rfl) T.g_all_standings T.F_all_standings.kp T.b_all_standings .nil (by exact (show Passes (L2.CX P w) _ E from passes_call (takes_of rfl rfl rfl rfl) (fun _ _ _ _ h => h))) (pa_cons (pv 0) (pa_cons (pv 1) pa_nil)))))), ?_⟩
    refine fn_body (K := K) [] (fun _ => by show (2 : Nat) ≤ 2; decide) (fun _ => by show ∀ k ∈ ([] : List Nat), k < 2; decide) h (fun F a hec hE hK hpv => ?_)
    obtain ⟨x_net, x_standing⟩ := a
    show RS F [] [some (.f x_net), some (.f x_standing)] (m_calm_paper x_net x_standing) _ _ _
    unfold m_calm_paper
    refine rs_seq ?_
    refine rs_if ?_
    refine rt_op2B o_nn ?_
    refine rd_call hec hE ?_
    refine ra_cons ?_
    refine rd_var rfl ?_
    intro _
    refine ra_cons ?_
    refine rd_var rfl ?_
    intro _
    refine ra_nil ?_
    refine ⟨(x_net, x_standing), _, rfl, rfl, rfl, fun r2 => ?_⟩
    intro _
    refine rd_non ?_
    refine ⟨_, _, _, rfl, rfl, rfl, fun t1 => ?_⟩
    refine ⟨_, _, rfl, fun _ => ?_, fun _ => ?_⟩
    · refine rs_ret ?_
      refine rd_non ?_
      refine ⟨_, rfl, ?_⟩
      exact ⟨_, rfl, rfl, trivial⟩
    · refine rs_next ?_
      refine rs_at [some (.f x_net), some (.f x_standing)] rfl ?_
      refine rs_ret ?_
      refine rd_fz ?_
      refine rd_call hec hE ?_
      refine ra_cons ?_
      refine rd_var rfl ?_
      intro _
      refine ra_cons ?_
      refine rd_var rfl ?_
      intro _
      refine ra_nil ?_
      refine ⟨(x_net, x_standing), _, rfl, rfl, rfl, fun r3 => ?_⟩
      refine ⟨_, rfl, ?_⟩
      refine ⟨_, rfl, ?_⟩
      exact ⟨_, rfl, rfl, trivial⟩
theorem ok_is_standing (T : Tx K mg) : FnOk P w K mg base CX0 2 T.a_is_standing T.d_is_standing ["net", "text"] (spOf (A := D × D) (R := D) EC.ec (fun a => [.f a.1, .f a.2]) (fun a => m_is_standing a.1 a.2) (fun r => .f r) (fun r => [none, none])) := by
  refine T.F_is_standing.ok sc_is_standing (fun vs H Q E h => ?_) (fun cdv A outer s H vs Q E hr h => ?_)
  · obtain ⟨a, G, w, _, _, hl, _⟩ := h; exact hl
  · refine ⟨_, (pss_one (ps_ret (pe_and (pe_cmpR (op_eqM (hu_64 hr)) (pe_callB (call_lenK (Kf := K) (by rfl)) (by rfl) T.n_len PySem.boot_len (pa_cons (pv 1) pa_nil)) (pe_callB (call_lenK (Kf := K) (by rfl)) (by rfl) T.n_len PySem.boot_len (pa_cons (pe_call (ok_wires_of T) (hr.mono (by decide)) (by rfl) T.g_wires_of T.F_wires_of.kp T.b_wires_of .nil (show Passes CX0 _ E from pass0) (pa_cons (pv 0) pa_nil)) pa_nil)) (nomark _)) (pe_one (pe_cmpR (op_eqM (hu_64 hr)) (pe_lc (own := [("sign", 2)]) rfl (by exact sc_is_standing.nd) (pi_str (pv 1)) blk_is_standing_0 (fun _ _ _ _ _ => (pg_name (i := 2) sc_is_standing.nd rfl (by first | exact .inl rfl | exact .inr rfl))) (fun _ _ _ _ _ => (pts_one (pt_cmpR (op_notInK (Kf := K) (by rfl)) (pv 2) pe_str rfl))) (fun _ _ _ _ _ => (pv 2))) (pe_lst pa_nil) (nomark _)))))), ?_⟩
    refine fn_body (K := K) [] (fun _ => by show (2 : Nat) ≤ 3; decide) (fun _ => by show ∀ k ∈ ([] : List Nat), k < 2; decide) h (fun F a hec hE hK hpv => ?_)
    obtain ⟨x_net, x_text⟩ := a
    show RS F [] [some (.f x_net), some (.f x_text), none] (m_is_standing x_net x_text) _ _ _
    unfold m_is_standing
    refine rs_ret ?_
    refine rd_andV (Z := Unit) ?_
    refine rd_op2B o_eq ?_
    refine rd_cb1 o_len ?_
    refine rd_var rfl ?_
    refine ⟨_, _, rfl, rfl, fun t4 => ?_⟩
    intro _
    refine rd_cb1 o_len ?_
    refine rd_call hec hE ?_
    refine ra_cons ?_
    refine rd_var rfl ?_
    intro _
    refine ra_nil ?_
    refine ⟨(x_net), _, rfl, rfl, rfl, fun r6 => ?_⟩
    refine ⟨_, _, rfl, rfl, fun t5 => ?_⟩
    refine ⟨_, _, _, rfl, rfl, rfl, fun t3 => ?_⟩
    refine ⟨_, _, rfl, rfl, fun t1 => ⟨fun z => [some (.f x_net), some (.f x_text), none], (), _, _, rfl, ⟨.inr rfl, ⟨.inr rfl, ⟨.inl rfl, trivial⟩⟩⟩, fun _ => ?_, fun p2 => ?_⟩⟩
    · refine rd_op2B o_eq ?_
      refine rd_lcR [2] (fun i hi => hi) (all1 (hpv _ (by decide))) ?_
      refine ri_str ?_
      refine rd_var rfl ?_
      refine ⟨_, _, rfl, rfl, fun ds10 => ?_⟩
      refine ⟨[some (.f x_net), some (.f x_text), none], _, _, rfl, ⟨.inr rfl, ⟨.inr rfl, ⟨.inl rfl, trivial⟩⟩⟩, (by first | exact trivial | rfl | exact ⟨rfl, rfl⟩), (all1 rfl), rfl, fun d8 _ _ => ?_, fun ys9 => ?_⟩
      · refine rg_name (by show (2 : Nat) < 3; decide) rfl (hpv _ (by decide)) ?_
        refine rt_op2B o_notIn ?_
        refine rd_var rfl ?_
        intro _
        refine rd_str e_q_01 ?_
        refine ⟨_, _, _, rfl, rfl, rfl, fun t11 => ?_⟩
        refine ⟨_, _, rfl, fun _ => ?_, fun _ => ⟨rfl, ⟨.inr rfl, ⟨.inr rfl, ⟨.inl rfl, trivial⟩⟩⟩⟩⟩
        refine rd_var rfl ?_
        exact ⟨_, rfl, rfl, ⟨.inr rfl, ⟨.inr rfl, ⟨.inl rfl, trivial⟩⟩⟩⟩
      · intro _
        refine rd_lst ?_
        refine ra_nil ?_
        refine ⟨[], rfl, (by show (0 : Nat) ≤ 1000; decide), ?_⟩
        refine ⟨_, _, _, rfl, rfl, rfl, fun t7 => ?_⟩
        exact ⟨_, _, rfl, rfl, ⟨.inr rfl, ⟨.inr rfl, ⟨.inl rfl, trivial⟩⟩⟩⟩
    · refine ⟨_, rfl, ?_⟩
      exact ⟨_, rfl, rfl, trivial⟩
theorem ok_is_calm_in (T : Tx K mg) : FnOk P w K mg base (L2.CX P w) 29 T.a_is_calm_in T.d_is_calm_in ["net", "standing", "some"] (spOf (A := D × D × D) (R := D) EC.ec (fun a => [.f a.1, .f a.2.1, .f a.2.2]) (fun a => m_is_calm_in a.1 a.2.1 a.2.2) (fun r => .f r) (fun r => [none, none, none])) := by
  refine T.F_is_calm_in.okX sc_is_calm_in (fun vs H Q E h => ?_) (fun cdv A outer s H vs Q E hr h => ?_)
  · obtain ⟨a, G, w, _, _, hl, _⟩ := h; exact hl
  · refine ⟨_, (pss_cons (ps_if (pw_or (pt_not (pt_val (pe_call (ok_is_standing T) (hr.mono (by decide)) (by rfl) T.g_is_standing T.F_is_standing.kp T.b_is_standing .nil (show Passes CX0 _ E from pass0) (pa_cons (pv 0) (pa_cons (pv 1) pa_nil))))) (pw_or1 (pt_cmpR op_notN (pe_call (ok_calmed_in T) (hr.mono (by decide)) (by rfl) T.g_calmed_in T.F_calmed_in.kp T.b_calmed_in .nil (by exact (show Passes (L2.CX P w) _ E from passes_call (takes_of rfl rfl rfl rfl) (fun _ _ _ _ h => h))) (pa_cons (pv 0) (pa_cons (pv 1) pa_nil))) pe_non (nomark _)))).pt (pss_one (ps_ret pe_bl)) pss_nil) (pss_cons (ps_for (passes_of rfl) rfl (pi_listK (Kf := K) (by rfl) (pe_call (ok_asked_gates T) (hr.mono (by decide)) (by rfl) T.g_asked_gates T.F_asked_gates.kp T.b_asked_gates .nil (by exact (show Passes (L2.CX P w) _ E from passes_call (takes_of rfl rfl rfl rfl) (fun _ _ _ _ h => h))) (pa_cons (pv 0) (pa_cons (pv 1) pa_nil)))) (pg_name (i := 3) sc_is_calm_in.nd rfl (by first | exact .inl rfl | exact .inr rfl)) (pss_one (ps_if (pt_cmp (pc_dnotin (hu_1 hr) (pe_call (ok_switch_gate T) (hr.mono (by decide)) (by rfl) T.g_switch_gate T.F_switch_gate.kp T.b_switch_gate .nil (by exact (show Passes (L2.CX P w) _ E from passes_call (takes_of rfl rfl rfl rfl) (fun _ _ _ _ h => h))) (pa_cons (pv 0) (pa_cons (pv 1) (pa_cons (pv 3) pa_nil)))) (pv 2))) (pss_one (ps_ret pe_bl)) pss_nil))) (pss_one (ps_ret pe_bl)))), ?_⟩
    refine fn_body (K := K) [] (fun _ => by show (3 : Nat) ≤ 4; decide) (fun _ => by show ∀ k ∈ ([] : List Nat), k < 3; decide) h (fun F a hec hE hK hpv => ?_)
    obtain ⟨x_net, x_standing, x_some⟩ := a
    show RS F [] [some (.f x_net), some (.f x_standing), some (.f x_some), none] (m_is_calm_in x_net x_standing x_some) _ _ _
    unfold m_is_calm_in
    refine rs_seq ?_
    refine rs_if ?_
    refine rt_or (Z := Unit) ?_
    refine rt_not ?_
    refine rt_val ?_
    refine rd_call hec hE ?_
    refine ra_cons ?_
    refine rd_var rfl ?_
    intro _
    refine ra_cons ?_
    refine rd_var rfl ?_
    intro _
    refine ra_nil ?_
    refine ⟨(x_net, x_standing), _, rfl, rfl, rfl, fun r3 => ?_⟩
    refine ⟨_, _, rfl, rfl, fun t2 => ?_⟩
    refine ⟨fun z => [some (.f x_net), some (.f x_standing), some (.f x_some), none], (), _, _, rfl, ⟨.inr rfl, ⟨.inr rfl, ⟨.inr rfl, ⟨.inl rfl, trivial⟩⟩⟩⟩, fun _ => ?_, fun p1 => ?_⟩
    · refine rt_op2B o_nn ?_
      refine rd_call hec hE ?_
      refine ra_cons ?_
      refine rd_var rfl ?_
      intro _
      refine ra_cons ?_
      refine rd_var rfl ?_
      intro _
      refine ra_nil ?_
      refine ⟨(x_net, x_standing), _, rfl, rfl, rfl, fun r5 => ?_⟩
      intro _
      refine rd_non ?_
      refine ⟨_, _, _, rfl, rfl, rfl, fun t4 => ?_⟩
      exact ⟨_, rfl, ⟨.inr rfl, ⟨.inr rfl, ⟨.inr rfl, ⟨.inl rfl, trivial⟩⟩⟩⟩⟩
    · refine ⟨_, _, rfl, fun _ => ?_, fun _ => ?_⟩
      · refine rs_ret ?_
        refine rd_bl ?_
        refine ⟨_, rfl, ?_⟩
        exact ⟨_, rfl, rfl, trivial⟩
      · refine rs_next ?_
        refine rs_at [some (.f x_net), some (.f x_standing), some (.f x_some), none] rfl ?_
        refine rs_seq ?_
        refine rs_for (Z := Unit) (R' := D) [3] ?_
        refine ri_lst ?_
        refine rd_call hec hE ?_
        refine ra_cons ?_
        refine rd_var rfl ?_
        intro _
        refine ra_cons ?_
        refine rd_var rfl ?_
        intro _
        refine ra_nil ?_
        refine ⟨(x_net, x_standing), _, rfl, rfl, rfl, fun r9 => ?_⟩
        refine ⟨_, _, rfl, rfl, fun ds8 _ => ?_⟩
        refine ⟨fun z7 => [some (.f x_net), some (.f x_standing), some (.f x_some), none], _, _, _, rfl, ⟨.inr rfl, ⟨.inr rfl, ⟨.inr rfl, ⟨.inl rfl, trivial⟩⟩⟩⟩, fun _ => (by first | exact trivial | rfl | exact ⟨rfl, rfl⟩), fun z7 d6 => ?_, fun z7 => ?_⟩
        · refine rg_name (by show (3 : Nat) < 4; decide) rfl (hpv _ (by decide)) ?_
          refine rs_at [some (.f x_net), some (.f x_standing), some (.f x_some), some (.f d6)] rfl ?_
          refine rs_if ?_
          refine rt_dnotin ?_
          refine rd_call hec hE ?_
          refine ra_cons ?_
          refine rd_var rfl ?_
          intro _
          refine ra_cons ?_
          refine rd_var rfl ?_
          intro _
          refine ra_cons ?_
          refine rd_var rfl ?_
          intro _
          refine ra_nil ?_
          refine ⟨(x_net, x_standing, d6), _, rfl, rfl, rfl, fun r11 => ?_⟩
          intro _
          refine rd_var rfl ?_
          refine ⟨_, _, _, rfl, rfl, rfl, fun t10 => ?_⟩
          refine ⟨_, _, rfl, fun _ => ?_, fun _ => ?_⟩
          · refine rs_ret ?_
            refine rd_bl ?_
            refine ⟨_, rfl, ?_⟩
            exact ⟨_, rfl, ⟨_, rfl, rfl, trivial⟩⟩
          · refine rs_next ?_
            exact ⟨_, rfl, ⟨.inr rfl, ⟨.inr rfl, ⟨.inr rfl, ⟨.inl rfl, trivial⟩⟩⟩⟩⟩
        · refine rs_at [some (.f x_net), some (.f x_standing), some (.f x_some), none] rfl ?_
          refine rs_onN ?_
          refine rs_ret ?_
          refine rd_bl ?_
          refine ⟨_, rfl, ?_⟩
          exact ⟨_, rfl, rfl, trivial⟩
theorem ok_calm_shows (T : Tx K mg) : FnOk P w K mg base (L2.CX P w) 30 T.a_calm_shows T.d_calm_shows ["net", "standing", "paper"] (spOf (A := D × D × D) (R := D) EC.ec (fun a => [.f a.1, .f a.2.1, .f a.2.2]) (fun a => m_calm_shows a.1 a.2.1 a.2.2) (fun r => .f r) (fun r => [none, none, none])) := by
  refine T.F_calm_shows.okX sc_calm_shows (fun vs H Q E h => ?_) (fun cdv A outer s H vs Q E hr h => ?_)
  · obtain ⟨a, G, w, _, _, hl, _⟩ := h; exact hl
  · refine ⟨_, (pss_cons (ps_expr (pe_call (ok_asked_gates T) (hr.mono (by decide)) (by rfl) T.g_asked_gates T.F_asked_gates.kp T.b_asked_gates .nil (by exact (show Passes (L2.CX P w) _ E from passes_call (takes_of rfl rfl rfl rfl) (fun _ _ _ _ h => h))) (pa_cons (pv 0) (pa_cons (pv 1) pa_nil)))) (pss_cons (ps_set (i := 3) sc_calm_shows.nd rfl (by first | exact .inl rfl | exact .inr rfl) pe_dnewK) (pss_cons (ps_for (passes_of rfl) rfl (pi_listK (Kf := K) (by rfl) (pv 2)) (pg_name (i := 4) sc_calm_shows.nd rfl (by first | exact .inl rfl | exact .inr rfl)) (pss_one (ps_dput (hu_1 hr) (pv 3) (pv 4) pe_bl (by rfl)))) (pss_cons (ps_if (pw_or (pt_cmp (pc_dnotin (hu_1 hr) (pv 1) (pv 3))) (pw_or1 (pt_cmpR (op_neM (hu_64 hr)) (pv 2) (pe_callB (cr_sortedDK (by rfl) (hu_64 hr)) (by rfl) T.n_sorted PyProof.Rows.boot_sorted (pa_cons (pv 3) pa_nil)) (nomark _)))).pt (pss_one (ps_ret pe_bl)) pss_nil) (pss_cons (ps_for (passes_of rfl) rfl (pi_listK (Kf := K) (by rfl) (pv 2)) (pg_name (i := 4) sc_calm_shows.nd rfl (by first | exact .inl rfl | exact .inr rfl)) (pss_one (ps_if (pt_not (pt_val (pe_call (ok_is_calm_in T) (hr.mono (by decide)) (by rfl) T.g_is_calm_in T.F_is_calm_in.kp T.b_is_calm_in .nil (by exact (show Passes (L2.CX P w) _ E from passes_call (takes_of rfl rfl rfl rfl) (fun _ _ _ _ h => h))) (pa_cons (pv 0) (pa_cons (pv 4) (pa_cons (pv 3) pa_nil)))))) (pss_one (ps_ret pe_bl)) pss_nil))) (pss_one (ps_ret pe_bl))))))), ?_⟩
    refine fn_body (K := K) [] (fun _ => by show (3 : Nat) ≤ 5; decide) (fun _ => by show ∀ k ∈ ([] : List Nat), k < 3; decide) h (fun F a hec hE hK hpv => ?_)
    obtain ⟨x_net, x_standing, x_paper⟩ := a
    show RS F [] [some (.f x_net), some (.f x_standing), some (.f x_paper), none, none] (m_calm_shows x_net x_standing x_paper) _ _ _
    unfold m_calm_shows
    refine rs_seq ?_
    refine rs_drop ?_
    refine rd_call hec hE ?_
    refine ra_cons ?_
    refine rd_var rfl ?_
    intro _
    refine ra_cons ?_
    refine rd_var rfl ?_
    intro _
    refine ra_nil ?_
    refine ⟨(x_net, x_standing), _, rfl, rfl, rfl, fun r1 => ?_⟩
    refine rs_at [some (.f x_net), some (.f x_standing), some (.f x_paper), none, none] rfl ?_
    refine rs_seq ?_
    refine rs_set ?_ rfl (hpv _ (by decide))
    refine rd_dnewK ?_
    refine ⟨_, rfl, (by show (3 : Nat) < 5; decide), ?_⟩
    refine rs_at [some (.f x_net), some (.f x_standing), some (.f x_paper), some (.dc false []), none] rfl ?_
    refine rs_seq ?_
    refine rs_forN (Z := (List (D × D))) [4] ?_
    refine ri_lst ?_
    refine rd_var rfl ?_
    refine ⟨_, _, rfl, rfl, fun ds4 _ => ?_⟩
    refine ⟨fun z3 => [some (.f x_net), some (.f x_standing), some (.f x_paper), some (.dc false z3), none], _, _, _, rfl, ⟨.inr rfl, ⟨.inr rfl, ⟨.inr rfl, ⟨.inr rfl, ⟨.inl rfl, trivial⟩⟩⟩⟩⟩, fun _ => (by first | exact trivial | rfl | exact ⟨rfl, rfl⟩), fun z3 d2 => ?_, fun z3 => ?_⟩
    · refine rg_name (by show (4 : Nat) < 5; decide) rfl (hpv _ (by decide)) ?_
      refine rs_at [some (.f x_net), some (.f x_standing), some (.f x_paper), some (.dc false z3), some (.f d2)] rfl ?_
      refine rs_dput ?_
      refine rd_bl ?_
      refine ⟨_, rfl, fun _ => ?_⟩
      refine rd_ali rfl ?_
      refine ⟨3, rfl, fun _ => ?_⟩
      refine rd_var rfl ?_
      refine ⟨_, _, _, _, rfl, rfl, rfl, fun t5 => ?_⟩
      exact ⟨_, rfl, ⟨.inr rfl, ⟨.inr rfl, ⟨.inr rfl, ⟨.inr rfl, ⟨.inl rfl, trivial⟩⟩⟩⟩⟩⟩
    · refine rs_at [some (.f x_net), some (.f x_standing), some (.f x_paper), some (.dc false z3), none] rfl ?_
      refine rs_seq ?_
      refine rs_if ?_
      refine rt_or (Z := Unit) ?_
      refine rt_dnotin ?_
      refine rd_var rfl ?_
      intro _
      refine rd_ali rfl ?_
      refine ⟨_, _, _, rfl, rfl, rfl, fun t7 => ?_⟩
      refine ⟨fun z => [some (.f x_net), some (.f x_standing), some (.f x_paper), some (.dc false z3), none], (), _, _, rfl, ⟨.inr rfl, ⟨.inr rfl, ⟨.inr rfl, ⟨.inr rfl, ⟨.inl rfl, trivial⟩⟩⟩⟩⟩, fun _ => ?_, fun p6 => ?_⟩
      · refine rt_op2B o_ne ?_
        refine rd_var rfl ?_
        intro _
        refine rd_cb1L o_sortedDK ?_
        refine rd_ali rfl ?_
        refine ⟨_, _, rfl, rfl, fun t9 => ?_⟩
        refine ⟨_, _, _, rfl, rfl, rfl, fun t8 => ?_⟩
        exact ⟨_, rfl, ⟨.inr rfl, ⟨.inr rfl, ⟨.inr rfl, ⟨.inr rfl, ⟨.inl rfl, trivial⟩⟩⟩⟩⟩⟩
      · refine ⟨_, _, rfl, fun _ => ?_, fun _ => ?_⟩
        · refine rs_ret ?_
          refine rd_bl ?_
          refine ⟨_, rfl, ?_⟩
          exact ⟨_, rfl, rfl, trivial⟩
        · refine rs_next ?_
          refine rs_at [some (.f x_net), some (.f x_standing), some (.f x_paper), some (.dc false z3), none] rfl ?_
          refine rs_seq ?_
          refine rs_frz 3 [some (.f x_net), some (.f x_standing), some (.f x_paper), some (.f (.dct false z3)), none] rfl rfl ?_
          refine rs_for (Z := Unit) (R' := D) [4] ?_
          refine ri_lst ?_
          refine rd_var rfl ?_
          refine ⟨_, _, rfl, rfl, fun ds19 _ => ?_⟩
          refine ⟨fun z18 => [some (.f x_net), some (.f x_standing), some (.f x_paper), some (.f (.dct false z3)), none], _, _, _, rfl, ⟨.inr rfl, ⟨.inr rfl, ⟨.inr rfl, ⟨.inr rfl, ⟨.inl rfl, trivial⟩⟩⟩⟩⟩, fun _ => (by first | exact trivial | rfl | exact ⟨rfl, rfl⟩), fun z18 d17 => ?_, fun z18 => ?_⟩
          · refine rg_name (by show (4 : Nat) < 5; decide) rfl (hpv _ (by decide)) ?_
            refine rs_at [some (.f x_net), some (.f x_standing), some (.f x_paper), some (.f (.dct false z3)), some (.f d17)] rfl ?_
            refine rs_if ?_
            refine rt_not ?_
            refine rt_val ?_
            refine rd_call hec hE ?_
            refine ra_cons ?_
            refine rd_var rfl ?_
            intro _
            refine ra_cons ?_
            refine rd_var rfl ?_
            intro _
            refine ra_cons ?_
            refine rd_var rfl ?_
            intro _
            refine ra_nil ?_
            refine ⟨(x_net, d17, (.dct false z3)), _, rfl, rfl, rfl, fun r21 => ?_⟩
            refine ⟨_, _, rfl, rfl, fun t20 => ?_⟩
            refine ⟨_, _, rfl, fun _ => ?_, fun _ => ?_⟩
            · refine rs_ret ?_
              refine rd_bl ?_
              refine ⟨_, rfl, ?_⟩
              exact ⟨_, rfl, ⟨_, rfl, rfl, trivial⟩⟩
            · refine rs_next ?_
              exact ⟨_, rfl, ⟨.inr rfl, ⟨.inr rfl, ⟨.inr rfl, ⟨.inr rfl, ⟨.inl rfl, trivial⟩⟩⟩⟩⟩⟩
          · refine rs_at [some (.f x_net), some (.f x_standing), some (.f x_paper), some (.f (.dct false z3)), none] rfl ?_
            refine rs_onN ?_
            refine rs_ret ?_
            refine rd_bl ?_
            refine ⟨_, rfl, ?_⟩
            exact ⟨_, rfl, rfl, trivial⟩
theorem ok__law_refused (T : Tx K mg) : FnOk P w K mg base CX0 31 T.a__law_refused T.d__law_refused ["way", "net", "thing", "paper"] (spOf (A := D × D × D × D) (R := D) EC.ec (fun a => [.f a.1, .f a.2.1, .f a.2.2.1, .f a.2.2.2]) (fun a => m__law_refused a.1 a.2.1 a.2.2.1 a.2.2.2) (fun r => .f r) (fun r => [none, none, none, none])) := by
  refine T.F__law_refused.ok sc__law_refused (fun vs H Q E h => ?_) (fun cdv A outer s H vs Q E hr h => ?_)
  · obtain ⟨a, G, w, _, _, hl, _⟩ := h; exact hl
  · refine ⟨_, (pss_cons (ps_set (i := 4) sc__law_refused.nd rfl (by first | exact .inl rfl | exact .inr rfl) pe_str) (pss_cons (ps_tryW (Kf := K) (i := 5) (j := 4) (C := EC.ec 1) (w := mkS q_standing) (by rfl) rfl rfl sc__law_refused.nd rfl rfl rfl (.inl rfl) (.inl rfl) ⟨rfl, by decide, Or.inl T.xg_0⟩ (.inr rfl) (okE__law_class T) (hr.mono (by decide)) (fun _ _ => rfl) T.g__law_class T.F__law_class.kp T.b__law_class (by decide) (by decide) (by decide) (fun _ _ => rfl) (fun _ _ => rfl) (fun W pn xe tk _ => (pss_one (ps_if (pt_cmpR (op_eqM (hu_64 hr)) (pv 0) pe_int (nomark _)) (pss_one (ps_expr (pe_callS (ok_first_race T) (hr.mono (by decide)) (by rfl) T.g_first_race T.F_first_race.kp T.b_first_race (fun σ => passAt tk σ) (by exact (pa_cons (pv 1) (pa_cons (pv 2) pa_nil)))))) (pss_one (ps_if (pt_cmpR (op_eqM (hu_64 hr)) (pv 0) pe_int (nomark _)) (pss_one (ps_expr (pe_callS (ok_calm_paper T) (hr.mono (by decide)) (by rfl) T.g_calm_paper T.F_calm_paper.kp T.b_calm_paper (fun σ => passAt tk σ) (by exact (pa_cons (pv 1) (pa_cons (pv 2) pa_nil)))))) (pss_one (ps_expr (pe_callS (ok_calm_shows T) (hr.mono (by decide)) (by rfl) T.g_calm_shows T.F_calm_shows.kp T.b_calm_shows (fun σ => passAt tk σ) (by exact (pa_cons (pv 1) (pa_cons (pv 2) (pa_cons (pv 3) pa_nil))))))))))))) (pss_one (ps_ret (pe_cmpR (op_eqM (hu_64 hr)) (pv 4) pe_str (nomark _)))))), ?_⟩
    refine fn_body (K := K) [] (fun _ => by show (4 : Nat) ≤ 6; decide) (fun _ => by show ∀ k ∈ ([] : List Nat), k < 4; decide) h (fun F a hec hE hK hpv => ?_)
    obtain ⟨x_way, x_net, x_thing, x_paper⟩ := a
    show RS F [] [some (.f x_way), some (.f x_net), some (.f x_thing), some (.f x_paper), none, none] (m__law_refused x_way x_net x_thing x_paper) _ _ _
    unfold m__law_refused
    refine rs_seq ?_
    refine rs_set ?_ rfl (hpv _ (by decide))
    refine rd_str e_qx_ ?_
    refine ⟨_, rfl, (by show (4 : Nat) < 6; decide), ?_⟩
    refine rs_at [some (.f x_way), some (.f x_net), some (.f x_thing), some (.f x_paper), some (.f (.str qx_)), none] rfl ?_
    refine rs_seq ?_
    refine rs_tryW (Z := D) (i := 5) (j := 4) (l := q_standing) [0, 1, 2, 3, 4] 1 (fun z1 => [some (.f x_way), some (.f x_net), some (.f x_thing), some (.f x_paper), some (.f z1), none]) _ (.str q_standing) _ rfl (by decide) (by show (5 : Nat) < 6; decide) (by show (4 : Nat) < 6; decide) hec (fun k => hpv k (by simp)) (xf_exm (ok := [1]) T.xf (j := 0) (by decide) (by decide) 1 (by decide)) ⟨.inr rfl, ⟨.inr rfl, ⟨.inr rfl, ⟨.inr rfl, ⟨.inr rfl, ⟨.inl rfl, trivial⟩⟩⟩⟩⟩⟩ rfl (fun F W hec hK hpv hW => ?_) (fun z1 => ?_)
    · refine rs_if ?_
      refine rt_op2B o_eq ?_
      refine rd_var rfl ?_
      intro _
      refine rd_int ?_
      refine ⟨_, _, _, rfl, rfl, rfl, fun t2 => ?_⟩
      refine ⟨_, _, rfl, fun _ => ?_, fun _ => ?_⟩
      · refine rs_drop ?_
        refine rd_callS hec hW ?_
        refine ra_cons ?_
        refine rd_var rfl ?_
        intro _
        refine ra_cons ?_
        refine rd_var rfl ?_
        intro _
        refine ra_nil ?_
        refine ⟨(x_net, x_thing), _, rfl, rfl, rfl, fun r3 => ?_⟩
        exact ⟨_, rfl, ⟨.inr rfl, ⟨.inr rfl, ⟨.inr rfl, ⟨.inr rfl, ⟨.inr rfl, ⟨.inl rfl, trivial⟩⟩⟩⟩⟩⟩⟩
      · refine rs_if ?_
        refine rt_op2B o_eq ?_
        refine rd_var rfl ?_
        intro _
        refine rd_int ?_
        refine ⟨_, _, _, rfl, rfl, rfl, fun t4 => ?_⟩
        refine ⟨_, _, rfl, fun _ => ?_, fun _ => ?_⟩
        · refine rs_drop ?_
          refine rd_callS hec hW ?_
          refine ra_cons ?_
          refine rd_var rfl ?_
          intro _
          refine ra_cons ?_
          refine rd_var rfl ?_
          intro _
          refine ra_nil ?_
          refine ⟨(x_net, x_thing), _, rfl, rfl, rfl, fun r5 => ?_⟩
          exact ⟨_, rfl, ⟨.inr rfl, ⟨.inr rfl, ⟨.inr rfl, ⟨.inr rfl, ⟨.inr rfl, ⟨.inl rfl, trivial⟩⟩⟩⟩⟩⟩⟩
        · refine rs_drop ?_
          refine rd_callS hec hW ?_
          refine ra_cons ?_
          refine rd_var rfl ?_
          intro _
          refine ra_cons ?_
          refine rd_var rfl ?_
          intro _
          refine ra_cons ?_
          refine rd_var rfl ?_
          intro _
          refine ra_nil ?_
          refine ⟨(x_net, x_thing, x_paper), _, rfl, rfl, rfl, fun r6 => ?_⟩
          exact ⟨_, rfl, ⟨.inr rfl, ⟨.inr rfl, ⟨.inr rfl, ⟨.inr rfl, ⟨.inr rfl, ⟨.inl rfl, trivial⟩⟩⟩⟩⟩⟩⟩
    · refine rs_at [some (.f x_way), some (.f x_net), some (.f x_thing), some (.f x_paper), some (.f z1), none] rfl ?_
      refine rs_ret ?_
      refine rd_op2B o_eq ?_
      refine rd_var rfl ?_
      intro _
      refine rd_str e_q_standing ?_
      refine ⟨_, _, _, rfl, rfl, rfl, fun t7 => ?_⟩
      refine ⟨_, rfl, ?_⟩
      exact ⟨_, rfl, rfl, trivial⟩
theorem ok_law (T : Tx K mg) : FnOk P w K mg base CX0 32 T.a_law T.d_law ["script"] (spOf (A := D) (R := D) EC.ec (fun a => [.f a]) (fun a => m_law a) (fun r => .f r) (fun r => [none])) := by
  refine T.F_law.ok sc_law (fun vs H Q E h => ?_) (fun cdv A outer s H vs Q E hr h => ?_)
  · obtain ⟨a, G, w, _, _, hl, _⟩ := h; exact hl
  · refine ⟨_, (pss_cons (ps_for PassesOwn.never rfl (pi_range1 (by rfl) T.n_range (pa_cons (pe_callB (call_min2 rfl) (by rfl) T.n_min PyProof.Rows.boot_min (pa_cons (pe_callB (call_max2 rfl) (by rfl) T.n_max PyProof.Rows.boot_max (pa_cons (pe_callB (call_lenK (Kf := K) (by rfl)) (by rfl) T.n_len PySem.boot_len (pa_cons (pv 0) pa_nil)) (pa_cons pe_int pa_nil))) (pa_cons pe_int pa_nil))) pa_nil)) (pg_name (i := 1) sc_law.nd rfl (by first | exact .inl rfl | exact .inr rfl)) (pss_cons (ps_set (i := 2) sc_law.nd rfl (by first | exact .inl rfl | exact .inr rfl) (pe_call (ok__law_store T) (hr.mono (by decide)) (by rfl) T.g__law_store T.F__law_store.kp T.b__law_store .nil (show Passes CX0 _ E from pass0) (pa_cons (pe_call (ok__law_cell T) (hr.mono (by decide)) (by rfl) T.g__law_cell T.F__law_cell.kp T.b__law_cell .nil (show Passes CX0 _ E from pass0) (pa_cons (pv 0) (pa_cons (pv 1) pa_nil))) pa_nil))) (pss_cons (ps_set (i := 3) sc_law.nd rfl (by first | exact .inl rfl | exact .inr rfl) (pe_call (ok__law_net T) (hr.mono (by decide)) (by rfl) T.g__law_net T.F__law_net.kp T.b__law_net .nil (show Passes CX0 _ E from pass0) (pa_cons (pv 2) (pa_cons pe_int pa_nil)))) (pss_cons (ps_set (i := 4) sc_law.nd rfl (by first | exact .inl rfl | exact .inr rfl) (pe_call (ok__law_standing T) (hr.mono (by decide)) (by rfl) T.g__law_standing T.F__law_standing.kp T.b__law_standing .nil (show Passes CX0 _ E from pass0) (pa_cons (pv 2) (pa_cons (pv 3) pa_nil)))) (pss_cons (ps_set (i := 5) sc_law.nd rfl (by first | exact .inl rfl | exact .inr rfl) (pe_callB (cr_sortedK (Kf := K) (by rfl) (hu_64 hr)) (by rfl) T.n_sorted PyProof.Rows.boot_sorted (pa_cons (pe_lst (pa_cons (pv 4) (pa_cons (pe_call (ok__law_standing T) (hr.mono (by decide)) (by rfl) T.g__law_standing T.F__law_standing.kp T.b__law_standing .nil (show Passes CX0 _ E from pass0) (pa_cons (pv 2) (pa_cons (pv 3) pa_nil))) pa_nil))) pa_nil))) (pss_cons (ps_set (i := 6) sc_law.nd rfl (by first | exact .inl rfl | exact .inr rfl) (pe_call (ok__law_no_standing T) (hr.mono (by decide)) (by rfl) T.g__law_no_standing T.F__law_no_standing.kp T.b__law_no_standing .nil (show Passes CX0 _ E from pass0) (pa_cons (pv 2) (pa_cons (pv 4) pa_nil)))) (pss_one (ps_for PassesOwn.never rfl (pi_range1 (by rfl) T.n_range (pa_cons pe_int pa_nil)) (pg_name (i := 7) sc_law.nd rfl (by first | exact .inl rfl | exact .inr rfl)) (pss_one (ps_if (pt_not (pt_val (pe_call (ok__law_refused T) (hr.mono (by decide)) (by rfl) T.g__law_refused T.F__law_refused.kp T.b__law_refused .nil (show Passes CX0 _ E from pass0) (pa_cons (pv 7) (pa_cons (pv 3) (pa_cons (pv 6) (pa_cons (pv 5) pa_nil))))))) (pss_one (ps_ret pe_bl)) pss_nil)))))))))) (pss_one (ps_ret pe_bl))), ?_⟩
    refine fn_body (K := K) [] (fun _ => by show (1 : Nat) ≤ 8; decide) (fun _ => by show ∀ k ∈ ([] : List Nat), k < 1; decide) h (fun F x_script hec hE hK hpv => ?_)
    skip
    show RS F [] [some (.f x_script), none, none, none, none, none, none, none] (m_law x_script) _ _ _
    unfold m_law
    refine rs_seq ?_
    refine rs_for (Z := Unit) (R' := D) [1] ?_
    refine ri_range1 ?_
    refine rd_cb2 o_min ?_
    refine rd_cb2 o_max ?_
    refine rd_cb1 o_len ?_
    refine rd_var rfl ?_
    refine ⟨_, _, rfl, rfl, fun t6 => ?_⟩
    intro _
    refine rd_int ?_
    refine ⟨_, _, _, rfl, rfl, rfl, fun t5 => ?_⟩
    intro _
    refine rd_int ?_
    refine ⟨_, _, _, rfl, rfl, rfl, fun t4 => ?_⟩
    refine ⟨_, _, rfl, rfl, fun ds3 => ?_⟩
    refine ⟨fun z2 => [some (.f x_script), none, none, none, none, none, none, none], _, _, _, rfl, ⟨.inr rfl, ⟨.inl rfl, ⟨.inl rfl, ⟨.inl rfl, ⟨.inl rfl, ⟨.inl rfl, ⟨.inl rfl, ⟨.inl rfl, trivial⟩⟩⟩⟩⟩⟩⟩⟩, fun _ => (by first | exact trivial | rfl | exact ⟨rfl, rfl⟩), fun z2 d1 => ?_, fun z2 => ?_⟩
    · refine rg_name (by show (1 : Nat) < 8; decide) rfl (hpv _ (by decide)) ?_
      refine rs_at [some (.f x_script), some (.f d1), none, none, none, none, none, none] rfl ?_
      refine rs_seq ?_
      refine rs_set ?_ rfl (hpv _ (by decide))
      refine rd_call hec hE ?_
      refine ra_cons ?_
      refine rd_call hec hE ?_
      refine ra_cons ?_
      refine rd_var rfl ?_
      intro _
      refine ra_cons ?_
      refine rd_var rfl ?_
      intro _
      refine ra_nil ?_
      refine ⟨(x_script, d1), _, rfl, rfl, rfl, fun r8 => ?_⟩
      intro _
      refine ra_nil ?_
      refine ⟨(r8), _, rfl, rfl, rfl, fun r7 => ?_⟩
      refine ⟨_, rfl, (by show (2 : Nat) < 8; decide), ?_⟩
      refine rs_at [some (.f x_script), some (.f d1), some (.l r7), none, none, none, none, none] rfl ?_
      refine rs_seq ?_
      refine rs_set ?_ rfl (hpv _ (by decide))
      refine rd_call hec hE ?_
      refine ra_cons ?_
      refine rd_ali rfl ?_
      intro _
      refine ra_cons ?_
      refine rd_int ?_
      intro _
      refine ra_nil ?_
      refine ⟨(r7, (.int 7)), _, rfl, rfl, rfl, fun r9 => ?_⟩
      refine ⟨_, rfl, (by show (3 : Nat) < 8; decide), ?_⟩
      refine rs_at [some (.f x_script), some (.f d1), some (.l r9.2), some (.f r9.1), none, none, none, none] rfl ?_
      refine rs_seq ?_
      refine rs_set ?_ rfl (hpv _ (by decide))
      refine rd_call hec hE ?_
      refine ra_cons ?_
      refine rd_ali rfl ?_
      intro _
      refine ra_cons ?_
      refine rd_var rfl ?_
      intro _
      refine ra_nil ?_
      refine ⟨(r9.2, r9.1), _, rfl, rfl, rfl, fun r10 => ?_⟩
      refine ⟨_, rfl, (by show (4 : Nat) < 8; decide), ?_⟩
      refine rs_at [some (.f x_script), some (.f d1), some (.l r10.2), some (.f r9.1), some (.f r10.1), none, none, none] rfl ?_
      refine rs_seq ?_
      refine rs_set ?_ rfl (hpv _ (by decide))
      refine rd_fz ?_
      refine rd_cb1L o_sorted ?_
      refine rd_lst ?_
      refine ra_cons ?_
      refine rd_var rfl ?_
      intro _
      refine ra_cons ?_
      refine rd_call hec hE ?_
      refine ra_cons ?_
      refine rd_ali rfl ?_
      intro _
      refine ra_cons ?_
      refine rd_var rfl ?_
      intro _
      refine ra_nil ?_
      refine ⟨(r10.2, r9.1), _, rfl, rfl, rfl, fun r12 => ?_⟩
      intro _
      refine ra_nil ?_
      refine ⟨[r10.1, r12.1], rfl, (by show (2 : Nat) ≤ 1000; decide), ?_⟩
      refine ⟨_, _, rfl, rfl, fun t11 => ?_⟩
      refine ⟨_, rfl, ?_⟩
      refine ⟨_, rfl, (by show (5 : Nat) < 8; decide), ?_⟩
      refine rs_at [some (.f x_script), some (.f d1), some (.l r12.2), some (.f r9.1), some (.f r10.1), some (.f (.lst t11)), none, none] rfl ?_
      refine rs_seq ?_
      refine rs_set ?_ rfl (hpv _ (by decide))
      refine rd_call hec hE ?_
      refine ra_cons ?_
      refine rd_ali rfl ?_
      intro _
      refine ra_cons ?_
      refine rd_var rfl ?_
      intro _
      refine ra_nil ?_
      refine ⟨(r12.2, r10.1), _, rfl, rfl, rfl, fun r13 => ?_⟩
      refine ⟨_, rfl, (by show (6 : Nat) < 8; decide), ?_⟩
      refine rs_at [some (.f x_script), some (.f d1), some (.l r13.2), some (.f r9.1), some (.f r10.1), some (.f (.lst t11)), some (.f r13.1), none] rfl ?_
      refine rs_for (Z := Unit) (R' := D) [7] ?_
      refine ri_range1 ?_
      refine rd_int ?_
      refine ⟨_, _, rfl, rfl, fun ds16 => ?_⟩
      refine ⟨fun z15 => [some (.f x_script), some (.f d1), some (.l r13.2), some (.f r9.1), some (.f r10.1), some (.f (.lst t11)), some (.f r13.1), none], _, _, _, rfl, ⟨.inr rfl, ⟨.inr rfl, ⟨.inr rfl, ⟨.inr rfl, ⟨.inr rfl, ⟨.inr rfl, ⟨.inr rfl, ⟨.inl rfl, trivial⟩⟩⟩⟩⟩⟩⟩⟩, fun _ => (by first | exact trivial | rfl | exact ⟨rfl, rfl⟩), fun z15 d14 => ?_, fun z15 => ?_⟩
      · refine rg_name (by show (7 : Nat) < 8; decide) rfl (hpv _ (by decide)) ?_
        refine rs_at [some (.f x_script), some (.f d1), some (.l r13.2), some (.f r9.1), some (.f r10.1), some (.f (.lst t11)), some (.f r13.1), some (.f d14)] rfl ?_
        refine rs_if ?_
        refine rt_not ?_
        refine rt_val ?_
        refine rd_call hec hE ?_
        refine ra_cons ?_
        refine rd_var rfl ?_
        intro _
        refine ra_cons ?_
        refine rd_var rfl ?_
        intro _
        refine ra_cons ?_
        refine rd_var rfl ?_
        intro _
        refine ra_cons ?_
        refine rd_var rfl ?_
        intro _
        refine ra_nil ?_
        refine ⟨(d14, r9.1, r13.1, (.lst t11)), _, rfl, rfl, rfl, fun r18 => ?_⟩
        refine ⟨_, _, rfl, rfl, fun t17 => ?_⟩
        refine ⟨_, _, rfl, fun _ => ?_, fun _ => ?_⟩
        · refine rs_ret ?_
          refine rd_bl ?_
          refine ⟨_, rfl, ?_⟩
          exact ⟨_, rfl, ⟨_, rfl, ⟨_, rfl, rfl, trivial⟩⟩⟩
        · refine rs_next ?_
          exact ⟨_, rfl, ⟨.inr rfl, ⟨.inr rfl, ⟨.inr rfl, ⟨.inr rfl, ⟨.inr rfl, ⟨.inr rfl, ⟨.inr rfl, ⟨.inl rfl, trivial⟩⟩⟩⟩⟩⟩⟩⟩⟩
      · exact ⟨_, rfl, ⟨.inr rfl, ⟨.inl rfl, ⟨.inl rfl, ⟨.inl rfl, ⟨.inl rfl, ⟨.inl rfl, ⟨.inl rfl, ⟨.inl rfl, trivial⟩⟩⟩⟩⟩⟩⟩⟩⟩
    · refine rs_at [some (.f x_script), none, none, none, none, none, none, none] rfl ?_
      refine rs_onN ?_
      refine rs_ret ?_
      refine rd_bl ?_
      refine ⟨_, rfl, ?_⟩
      exact ⟨_, rfl, rfl, trivial⟩
end
theorem all_mk {l : PySem.W.OpenLaw} {w : World} {K : PySem.W.Frag} {h : Heap} {mg : Str → Option Value} {fa : Addr} (X : K.In h) (G : h.Ns mainGlobals mg) (hfa : mg "law" = some (.ref fa))
    {f0 : Addr} {od0 an0 : Option Addr} {sl0 : Array (Option Value)} {oc0 kV0 dc0 pm0 cd0 ct0 : Value}
    (a0 : PySem.W.nsIn K mainGlobals "_law_store" = some (some (.ref f0))) (l0 : K.lookup f0 = some ⟨oc0, od0, .func (PySem.W.fnOf "_law_store" "_law_store" (defArgs s__law_store) (defBody s__law_store) (defScope s__law_store) .none kV0 dc0 pm0 an0 cd0 ct0), sl0⟩) (c0 : PySem.W.codeIn K cd0 "_law_store" = true) (k0 : PySem.W.keepIn K (.ref f0) = true)
    {f1 : Addr} {od1 an1 : Option Addr} {sl1 : Array (Option Value)} {oc1 kV1 dc1 pm1 cd1 ct1 : Value}
    (a1 : PySem.W.nsIn K mainGlobals "_law_take" = some (some (.ref f1))) (l1 : K.lookup f1 = some ⟨oc1, od1, .func (PySem.W.fnOf "_law_take" "_law_take" (defArgs s__law_take) (defBody s__law_take) (defScope s__law_take) .none kV1 dc1 pm1 an1 cd1 ct1), sl1⟩) (c1 : PySem.W.codeIn K cd1 "_law_take" = true) (k1 : PySem.W.keepIn K (.ref f1) = true)
    {f2 : Addr} {od2 an2 : Option Addr} {sl2 : Array (Option Value)} {oc2 kV2 dc2 pm2 cd2 ct2 : Value}
    (a2 : PySem.W.nsIn K mainGlobals "_law_names" = some (some (.ref f2))) (l2 : K.lookup f2 = some ⟨oc2, od2, .func (PySem.W.fnOf "_law_names" "_law_names" (defArgs s__law_names) (defBody s__law_names) (defScope s__law_names) .none kV2 dc2 pm2 an2 cd2 ct2), sl2⟩) (c2 : PySem.W.codeIn K cd2 "_law_names" = true) (k2 : PySem.W.keepIn K (.ref f2) = true)
    {f3 : Addr} {od3 an3 : Option Addr} {sl3 : Array (Option Value)} {oc3 kV3 dc3 pm3 cd3 ct3 : Value}
    (a3 : PySem.W.nsIn K mainGlobals "_law_rule" = some (some (.ref f3))) (l3 : K.lookup f3 = some ⟨oc3, od3, .func (PySem.W.fnOf "_law_rule" "_law_rule" (defArgs s__law_rule) (defBody s__law_rule) (defScope s__law_rule) .none kV3 dc3 pm3 an3 cd3 ct3), sl3⟩) (c3 : PySem.W.codeIn K cd3 "_law_rule" = true) (k3 : PySem.W.keepIn K (.ref f3) = true)
    {f4 : Addr} {od4 an4 : Option Addr} {sl4 : Array (Option Value)} {oc4 kV4 dc4 pm4 cd4 ct4 : Value}
    (a4 : PySem.W.nsIn K mainGlobals "_law_holder" = some (some (.ref f4))) (l4 : K.lookup f4 = some ⟨oc4, od4, .func (PySem.W.fnOf "_law_holder" "_law_holder" (defArgs s__law_holder) (defBody s__law_holder) (defScope s__law_holder) .none kV4 dc4 pm4 an4 cd4 ct4), sl4⟩) (c4 : PySem.W.codeIn K cd4 "_law_holder" = true) (k4 : PySem.W.keepIn K (.ref f4) = true)
    {f5 : Addr} {od5 an5 : Option Addr} {sl5 : Array (Option Value)} {oc5 kV5 dc5 pm5 cd5 ct5 : Value}
    (a5 : PySem.W.nsIn K mainGlobals "_law_known_rule" = some (some (.ref f5))) (l5 : K.lookup f5 = some ⟨oc5, od5, .func (PySem.W.fnOf "_law_known_rule" "_law_known_rule" (defArgs s__law_known_rule) (defBody s__law_known_rule) (defScope s__law_known_rule) .none kV5 dc5 pm5 an5 cd5 ct5), sl5⟩) (c5 : PySem.W.codeIn K cd5 "_law_known_rule" = true) (k5 : PySem.W.keepIn K (.ref f5) = true)
    {f6 : Addr} {od6 an6 : Option Addr} {sl6 : Array (Option Value)} {oc6 kV6 dc6 pm6 cd6 ct6 : Value}
    (a6 : PySem.W.nsIn K mainGlobals "_law_net" = some (some (.ref f6))) (l6 : K.lookup f6 = some ⟨oc6, od6, .func (PySem.W.fnOf "_law_net" "_law_net" (defArgs s__law_net) (defBody s__law_net) (defScope s__law_net) .none kV6 dc6 pm6 an6 cd6 ct6), sl6⟩) (c6 : PySem.W.codeIn K cd6 "_law_net" = true) (k6 : PySem.W.keepIn K (.ref f6) = true)
    {f7 : Addr} {od7 an7 : Option Addr} {sl7 : Array (Option Value)} {oc7 kV7 dc7 pm7 cd7 ct7 : Value}
    (a7 : PySem.W.nsIn K mainGlobals "_law_standing" = some (some (.ref f7))) (l7 : K.lookup f7 = some ⟨oc7, od7, .func (PySem.W.fnOf "_law_standing" "_law_standing" (defArgs s__law_standing) (defBody s__law_standing) (defScope s__law_standing) .none kV7 dc7 pm7 an7 cd7 ct7), sl7⟩) (c7 : PySem.W.codeIn K cd7 "_law_standing" = true) (k7 : PySem.W.keepIn K (.ref f7) = true)
    {f8 : Addr} {od8 an8 : Option Addr} {sl8 : Array (Option Value)} {oc8 kV8 dc8 pm8 cd8 ct8 : Value}
    (a8 : PySem.W.nsIn K mainGlobals "_law_no_standing" = some (some (.ref f8))) (l8 : K.lookup f8 = some ⟨oc8, od8, .func (PySem.W.fnOf "_law_no_standing" "_law_no_standing" (defArgs s__law_no_standing) (defBody s__law_no_standing) (defScope s__law_no_standing) .none kV8 dc8 pm8 an8 cd8 ct8), sl8⟩) (c8 : PySem.W.codeIn K cd8 "_law_no_standing" = true) (k8 : PySem.W.keepIn K (.ref f8) = true)
    {f9 : Addr} {od9 an9 : Option Addr} {sl9 : Array (Option Value)} {oc9 kV9 dc9 pm9 cd9 ct9 : Value}
    (a9 : PySem.W.nsIn K mainGlobals "_law_cell" = some (some (.ref f9))) (l9 : K.lookup f9 = some ⟨oc9, od9, .func (PySem.W.fnOf "_law_cell" "_law_cell" (defArgs s__law_cell) (defBody s__law_cell) (defScope s__law_cell) .none kV9 dc9 pm9 an9 cd9 ct9), sl9⟩) (c9 : PySem.W.codeIn K cd9 "_law_cell" = true) (k9 : PySem.W.keepIn K (.ref f9) = true)
    {f10 : Addr} {od10 an10 : Option Addr} {sl10 : Array (Option Value)} {oc10 kV10 dc10 pm10 cd10 ct10 : Value}
    (a10 : PySem.W.nsIn K mainGlobals "need_standing" = some (some (.ref f10))) (l10 : K.lookup f10 = some ⟨oc10, od10, .func (PySem.W.fnOf "need_standing" "need_standing" (defArgs s_need_standing) (defBody s_need_standing) (defScope s_need_standing) .none kV10 dc10 pm10 an10 cd10 ct10), sl10⟩) (c10 : PySem.W.codeIn K cd10 "need_standing" = true) (k10 : PySem.W.keepIn K (.ref f10) = true)
    {f11 : Addr} {od11 an11 : Option Addr} {sl11 : Array (Option Value)} {oc11 kV11 dc11 pm11 cd11 ct11 : Value}
    (a11 : PySem.W.nsIn K mainGlobals "wires_of" = some (some (.ref f11))) (l11 : K.lookup f11 = some ⟨oc11, od11, .func (PySem.W.fnOf "wires_of" "wires_of" (defArgs s_wires_of) (defBody s_wires_of) (defScope s_wires_of) .none kV11 dc11 pm11 an11 cd11 ct11), sl11⟩) (c11 : PySem.W.codeIn K cd11 "wires_of" = true) (k11 : PySem.W.keepIn K (.ref f11) = true)
    {f12 : Addr} {od12 an12 : Option Addr} {sl12 : Array (Option Value)} {oc12 kV12 dc12 pm12 cd12 ct12 : Value}
    (a12 : PySem.W.nsIn K mainGlobals "signs_by_name" = some (some (.ref f12))) (l12 : K.lookup f12 = some ⟨oc12, od12, .func (PySem.W.fnOf "signs_by_name" "signs_by_name" (defArgs s_signs_by_name) (defBody s_signs_by_name) (defScope s_signs_by_name) .none kV12 dc12 pm12 an12 cd12 ct12), sl12⟩) (c12 : PySem.W.codeIn K cd12 "signs_by_name" = true) (k12 : PySem.W.keepIn K (.ref f12) = true)
    {f13 : Addr} {od13 an13 : Option Addr} {sl13 : Array (Option Value)} {oc13 kV13 dc13 pm13 cd13 ct13 : Value}
    (a13 : PySem.W.nsIn K mainGlobals "rule_holds" = some (some (.ref f13))) (l13 : K.lookup f13 = some ⟨oc13, od13, .func (PySem.W.fnOf "rule_holds" "rule_holds" (defArgs s_rule_holds) (defBody s_rule_holds) (defScope s_rule_holds) .none kV13 dc13 pm13 an13 cd13 ct13), sl13⟩) (c13 : PySem.W.codeIn K cd13 "rule_holds" = true) (k13 : PySem.W.keepIn K (.ref f13) = true)
    {f14 : Addr} {od14 an14 : Option Addr} {sl14 : Array (Option Value)} {oc14 kV14 dc14 pm14 cd14 ct14 : Value}
    (a14 : PySem.W.nsIn K mainGlobals "asked_gates" = some (some (.ref f14))) (l14 : K.lookup f14 = some ⟨oc14, od14, .func (PySem.W.fnOf "asked_gates" "asked_gates" (defArgs s_asked_gates) (defBody s_asked_gates) (defScope s_asked_gates) .none kV14 dc14 pm14 an14 cd14 ct14), sl14⟩) (c14 : PySem.W.codeIn K cd14 "asked_gates" = true) (k14 : PySem.W.keepIn K (.ref f14) = true)
    {f15 : Addr} {od15 an15 : Option Addr} {sl15 : Array (Option Value)} {oc15 kV15 dc15 pm15 cd15 ct15 : Value}
    (a15 : PySem.W.nsIn K mainGlobals "with_turned" = some (some (.ref f15))) (l15 : K.lookup f15 = some ⟨oc15, od15, .func (PySem.W.fnOf "with_turned" "with_turned" (defArgs s_with_turned) (defBody s_with_turned) (defScope s_with_turned) .none kV15 dc15 pm15 an15 cd15 ct15), sl15⟩) (c15 : PySem.W.codeIn K cd15 "with_turned" = true) (k15 : PySem.W.keepIn K (.ref f15) = true)
    {f16 : Addr} {od16 an16 : Option Addr} {sl16 : Array (Option Value)} {oc16 kV16 dc16 pm16 cd16 ct16 : Value}
    (a16 : PySem.W.nsIn K mainGlobals "switch_gate" = some (some (.ref f16))) (l16 : K.lookup f16 = some ⟨oc16, od16, .func (PySem.W.fnOf "switch_gate" "switch_gate" (defArgs s_switch_gate) (defBody s_switch_gate) (defScope s_switch_gate) .none kV16 dc16 pm16 an16 cd16 ct16), sl16⟩) (c16 : PySem.W.codeIn K cd16 "switch_gate" = true) (k16 : PySem.W.keepIn K (.ref f16) = true)
    {f17 : Addr} {od17 an17 : Option Addr} {sl17 : Array (Option Value)} {oc17 kV17 dc17 pm17 cd17 ct17 : Value}
    (a17 : PySem.W.nsIn K mainGlobals "calmed_in" = some (some (.ref f17))) (l17 : K.lookup f17 = some ⟨oc17, od17, .func (PySem.W.fnOf "calmed_in" "calmed_in" (defArgs s_calmed_in) (defBody s_calmed_in) (defScope s_calmed_in) .none kV17 dc17 pm17 an17 cd17 ct17), sl17⟩) (c17 : PySem.W.codeIn K cd17 "calmed_in" = true) (k17 : PySem.W.keepIn K (.ref f17) = true)
    {f18 : Addr} {od18 an18 : Option Addr} {sl18 : Array (Option Value)} {oc18 kV18 dc18 pm18 cd18 ct18 : Value}
    (a18 : PySem.W.nsIn K mainGlobals "first_race" = some (some (.ref f18))) (l18 : K.lookup f18 = some ⟨oc18, od18, .func (PySem.W.fnOf "first_race" "first_race" (defArgs s_first_race) (defBody s_first_race) (defScope s_first_race) .none kV18 dc18 pm18 an18 cd18 ct18), sl18⟩) (c18 : PySem.W.codeIn K cd18 "first_race" = true) (k18 : PySem.W.keepIn K (.ref f18) = true)
    {f19 : Addr} {od19 an19 : Option Addr} {sl19 : Array (Option Value)} {oc19 kV19 dc19 pm19 cd19 ct19 : Value}
    (a19 : PySem.W.nsIn K mainGlobals "_law_class" = some (some (.ref f19))) (l19 : K.lookup f19 = some ⟨oc19, od19, .func (PySem.W.fnOf "_law_class" "_law_class" (defArgs s__law_class) (defBody s__law_class) (defScope s__law_class) .none kV19 dc19 pm19 an19 cd19 ct19), sl19⟩) (c19 : PySem.W.codeIn K cd19 "_law_class" = true) (k19 : PySem.W.keepIn K (.ref f19) = true)
    {f20 : Addr} {od20 an20 : Option Addr} {sl20 : Array (Option Value)} {oc20 kV20 dc20 pm20 cd20 ct20 : Value}
    (a20 : PySem.W.nsIn K mainGlobals "steps_from" = some (some (.ref f20))) (l20 : K.lookup f20 = some ⟨oc20, od20, .func (PySem.W.fnOf "steps_from" "steps_from" (defArgs s_steps_from) (defBody s_steps_from) (defScope s_steps_from) .none kV20 dc20 pm20 an20 cd20 ct20), sl20⟩) (c20 : PySem.W.codeIn K cd20 "steps_from" = true) (k20 : PySem.W.keepIn K (.ref f20) = true)
    {f21 : Addr} {od21 an21 : Option Addr} {sl21 : Array (Option Value)} {oc21 kV21 dc21 pm21 cd21 ct21 : Value}
    (a21 : PySem.W.nsIn K mainGlobals "first_orders" = some (some (.ref f21))) (l21 : K.lookup f21 = some ⟨oc21, od21, .func (PySem.W.fnOf "first_orders" "first_orders" (defArgs s_first_orders) (defBody s_first_orders) (defScope s_first_orders) .none kV21 dc21 pm21 an21 cd21 ct21), sl21⟩) (c21 : PySem.W.codeIn K cd21 "first_orders" = true) (k21 : PySem.W.keepIn K (.ref f21) = true)
    {f22 : Addr} {od22 an22 : Option Addr} {sl22 : Array (Option Value)} {oc22 kV22 dc22 pm22 cd22 ct22 : Value}
    (a22 : PySem.W.nsIn K mainGlobals "all_standings" = some (some (.ref f22))) (l22 : K.lookup f22 = some ⟨oc22, od22, .func (PySem.W.fnOf "all_standings" "all_standings" (defArgs s_all_standings) (defBody s_all_standings) (defScope s_all_standings) .none kV22 dc22 pm22 an22 cd22 ct22), sl22⟩) (c22 : PySem.W.codeIn K cd22 "all_standings" = true) (k22 : PySem.W.keepIn K (.ref f22) = true)
    {f23 : Addr} {od23 an23 : Option Addr} {sl23 : Array (Option Value)} {oc23 kV23 dc23 pm23 cd23 ct23 : Value}
    (a23 : PySem.W.nsIn K mainGlobals "calm_paper" = some (some (.ref f23))) (l23 : K.lookup f23 = some ⟨oc23, od23, .func (PySem.W.fnOf "calm_paper" "calm_paper" (defArgs s_calm_paper) (defBody s_calm_paper) (defScope s_calm_paper) .none kV23 dc23 pm23 an23 cd23 ct23), sl23⟩) (c23 : PySem.W.codeIn K cd23 "calm_paper" = true) (k23 : PySem.W.keepIn K (.ref f23) = true)
    {f24 : Addr} {od24 an24 : Option Addr} {sl24 : Array (Option Value)} {oc24 kV24 dc24 pm24 cd24 ct24 : Value}
    (a24 : PySem.W.nsIn K mainGlobals "is_standing" = some (some (.ref f24))) (l24 : K.lookup f24 = some ⟨oc24, od24, .func (PySem.W.fnOf "is_standing" "is_standing" (defArgs s_is_standing) (defBody s_is_standing) (defScope s_is_standing) .none kV24 dc24 pm24 an24 cd24 ct24), sl24⟩) (c24 : PySem.W.codeIn K cd24 "is_standing" = true) (k24 : PySem.W.keepIn K (.ref f24) = true)
    {f25 : Addr} {od25 an25 : Option Addr} {sl25 : Array (Option Value)} {oc25 kV25 dc25 pm25 cd25 ct25 : Value}
    (a25 : PySem.W.nsIn K mainGlobals "is_calm_in" = some (some (.ref f25))) (l25 : K.lookup f25 = some ⟨oc25, od25, .func (PySem.W.fnOf "is_calm_in" "is_calm_in" (defArgs s_is_calm_in) (defBody s_is_calm_in) (defScope s_is_calm_in) .none kV25 dc25 pm25 an25 cd25 ct25), sl25⟩) (c25 : PySem.W.codeIn K cd25 "is_calm_in" = true) (k25 : PySem.W.keepIn K (.ref f25) = true)
    {f26 : Addr} {od26 an26 : Option Addr} {sl26 : Array (Option Value)} {oc26 kV26 dc26 pm26 cd26 ct26 : Value}
    (a26 : PySem.W.nsIn K mainGlobals "calm_shows" = some (some (.ref f26))) (l26 : K.lookup f26 = some ⟨oc26, od26, .func (PySem.W.fnOf "calm_shows" "calm_shows" (defArgs s_calm_shows) (defBody s_calm_shows) (defScope s_calm_shows) .none kV26 dc26 pm26 an26 cd26 ct26), sl26⟩) (c26 : PySem.W.codeIn K cd26 "calm_shows" = true) (k26 : PySem.W.keepIn K (.ref f26) = true)
    {f27 : Addr} {od27 an27 : Option Addr} {sl27 : Array (Option Value)} {oc27 kV27 dc27 pm27 cd27 ct27 : Value}
    (a27 : PySem.W.nsIn K mainGlobals "_law_refused" = some (some (.ref f27))) (l27 : K.lookup f27 = some ⟨oc27, od27, .func (PySem.W.fnOf "_law_refused" "_law_refused" (defArgs s__law_refused) (defBody s__law_refused) (defScope s__law_refused) .none kV27 dc27 pm27 an27 cd27 ct27), sl27⟩) (c27 : PySem.W.codeIn K cd27 "_law_refused" = true) (k27 : PySem.W.keepIn K (.ref f27) = true)
    {f28 : Addr} {od28 an28 : Option Addr} {sl28 : Array (Option Value)} {oc28 kV28 dc28 pm28 cd28 ct28 : Value}
    (a28 : PySem.W.nsIn K mainGlobals "law" = some (some (.ref f28))) (l28 : K.lookup f28 = some ⟨oc28, od28, .func (PySem.W.fnOf "law" "law" (defArgs s_law) (defBody s_law) (defScope s_law) .none kV28 dc28 pm28 an28 cd28 ct28), sl28⟩) (c28 : PySem.W.codeIn K cd28 "law" = true) (k28 : PySem.W.keepIn K (.ref f28) = true)
    (z_ValueError : PySem.W.nsIn K mainGlobals "ValueError" = some none)
    (z_dict : PySem.W.nsIn K mainGlobals "dict" = some none)
    (z_int : PySem.W.nsIn K mainGlobals "int" = some none)
    (z_isinstance : PySem.W.nsIn K mainGlobals "isinstance" = some none)
    (z_len : PySem.W.nsIn K mainGlobals "len" = some none)
    (z_list : PySem.W.nsIn K mainGlobals "list" = some none)
    (z_max : PySem.W.nsIn K mainGlobals "max" = some none)
    (z_min : PySem.W.nsIn K mainGlobals "min" = some none)
    (z_range : PySem.W.nsIn K mainGlobals "range" = some none)
    (z_sorted : PySem.W.nsIn K mainGlobals "sorted" = some none)
    (z_str : PySem.W.nsIn K mainGlobals "str" = some none)
    (z_zip : PySem.W.nsIn K mainGlobals "zip" = some none)
    {cx0 : Addr} (xg0 : PySem.W.nsIn K mainGlobals "NetError" = some (some (.ref cx0)))
    {cx1 : Addr} (xg1 : PySem.W.nsIn K mainGlobals "NoStanding" = some (some (.ref cx1)))
    {cx2 : Addr} (xg2 : PySem.W.nsIn K mainGlobals "NoFit" = some (some (.ref cx2)))
    {cx3 : Addr} (xg3 : PySem.W.nsIn K mainGlobals "NoText" = some (some (.ref cx3)))
    {cx4 : Addr} (xg4 : PySem.W.nsIn K mainGlobals "NoName" = some (some (.ref cx4)))
    {cx5 : Addr} (xg5 : PySem.W.nsIn K mainGlobals "NoRow" = some (some (.ref cx5)))
    {cx6 : Addr} (xg6 : PySem.W.nsIn K mainGlobals "NoStep" = some (some (.ref cx6)))
    (xall : xAll K [0, 1, 2, 3, 4, 5, 6] = true)
    (xk1 : PySem.W.keepIn K (.ref cx1) = true) (xe1 : PySem.W.excIn K cx1 [.type "ValueError", .type "Exception", .type "BaseException", .type "object"] "ValueError.__new__" = true) (xt1 : PySem.W.typeIn K (.ref cx1) = some (.type "type"))
    {nm q : Str} {Nx : Addr} {bs bm : List Value} {sn : List Str} {sub : List Value} {ab : Bool} {col : Option Bool} {dd : Option Addr} {m0 m1 m2 m3 m5 : Option Value} {fi : Addr} {odi ani : Option Addr} {sli : Array (Option Value)} {oci kVi dci pmi cdi cti : Value}
    (xL : K.lookup cx6 = some (excClassObj nm q cx6 Nx bs bm true sn sub ab col dd m0 m1 m2 m3 m5 "ValueError.__new__")) (rv : PySem.HandSPX.refsVE bm = true) (sa : PySem.W.findIn K (.ref cx6) "__setattr__" = some (some (.builtin "object.__setattr__"))) (ex6 : PySem.W.subIn K (.ref cx6) (.type "BaseException") = some true) (ty6 : PySem.W.typeIn K (.ref cx6) = some (.type "type")) (kC6 : PySem.W.keepIn K (.ref cx6) = true)
    (ai : PySem.W.findIn K (.ref cx6) "__init__" = some (some (.ref fi))) (ti : PySem.W.typeIn K (.ref fi) = some (.type "function")) (li : K.lookup fi = some ⟨oci, odi, .func (PySem.W.fnOf "__init__" "NoStep.__init__" (defArgs s_init) (defBody s_init) (defScope s_init) .none kVi dci pmi ani cdi cti), sli⟩) (ci : PySem.W.codeIn K cdi "NoStep.__init__" = true) (ki : PySem.W.keepIn K (.ref fi) = true)
    : ∃ fd : FuncData, (∀ (s : Shared) (v : Value), BindsTo s fd ⟨[v], []⟩ [("script", v)]) ∧ ∀ base : Heap, K.In base → base.Ns mainGlobals mg → FnOk l.prog w K mg base CX0 32 fa fd ["script"] (@spOf (ecOf l.prog w K) D D (@EC.ec (ecOf l.prog w K)) (fun a => [.f a]) (fun a => m_law a) (fun r => .f r) (fun r => [none])) := by
  letI : EC := ecOf l.prog w K
  have e := hfa.symm.trans (PySem.W.mg_of X G a28)
  cases e
  have F0 := fun_mk (st := s__law_store) l0 c0 k0
  have b0 := F0.binds (ps := ["cell"]) fun _ _ _ _ _ _ us hl => match us, hl with | [_], _ => rfl
  have F1 := fun_mk (st := s__law_take) l1 c1 k1
  have b1 := F1.binds (ps := ["store", "many"]) fun _ _ _ _ _ _ us hl => match us, hl with | [_, _], _ => rfl
  have F2 := fun_mk (st := s__law_names) l2 c2 k2
  have b2 := F2.binds (ps := ["store", "many"]) fun _ _ _ _ _ _ us hl => match us, hl with | [_, _], _ => rfl
  have F3 := fun_mk (st := s__law_rule) l3 c3 k3
  have b3 := F3.binds (ps := ["store", "names", "deep"]) fun _ _ _ _ _ _ us hl => match us, hl with | [_, _, _], _ => rfl
  have F4 := fun_mk (st := s__law_holder) l4 c4 k4
  have b4 := F4.binds (ps := ["one", "other", "own"]) fun _ _ _ _ _ _ us hl => match us, hl with | [_, _, _], _ => rfl
  have F5 := fun_mk (st := s__law_known_rule) l5 c5 k5
  have b5 := F5.binds (ps := ["kind", "names", "at", "ins"]) fun _ _ _ _ _ _ us hl => match us, hl with | [_, _, _, _], _ => rfl
  have F6 := fun_mk (st := s__law_net) l6 c6 k6
  have b6 := F6.binds (ps := ["store", "most"]) fun _ _ _ _ _ _ us hl => match us, hl with | [_, _], _ => rfl
  have F7 := fun_mk (st := s__law_standing) l7 c7 k7
  have b7 := F7.binds (ps := ["store", "net"]) fun _ _ _ _ _ _ us hl => match us, hl with | [_, _], _ => rfl
  have F8 := fun_mk (st := s__law_no_standing) l8 c8 k8
  have b8 := F8.binds (ps := ["store", "standing"]) fun _ _ _ _ _ _ us hl => match us, hl with | [_, _], _ => rfl
  have F9 := fun_mk (st := s__law_cell) l9 c9 k9
  have b9 := F9.binds (ps := ["script", "k"]) fun _ _ _ _ _ _ us hl => match us, hl with | [_, _], _ => rfl
  have F10 := fun_mk (st := s_need_standing) l10 c10 k10
  have b10 := F10.binds (ps := ["net", "standing"]) fun _ _ _ _ _ _ us hl => match us, hl with | [_, _], _ => rfl
  have F11 := fun_mk (st := s_wires_of) l11 c11 k11
  have b11 := F11.binds (ps := ["net"]) fun _ _ _ _ _ _ us hl => match us, hl with | [_], _ => rfl
  have F12 := fun_mk (st := s_signs_by_name) l12 c12 k12
  have b12 := F12.binds (ps := ["net", "standing"]) fun _ _ _ _ _ _ us hl => match us, hl with | [_, _], _ => rfl
  have F13 := fun_mk (st := s_rule_holds) l13 c13 k13
  have b13 := F13.binds (ps := ["rule", "signs"]) fun _ _ _ _ _ _ us hl => match us, hl with | [_, _], _ => rfl
  have F14 := fun_mk (st := s_asked_gates) l14 c14 k14
  have b14 := F14.binds (ps := ["net", "standing"]) fun _ _ _ _ _ _ us hl => match us, hl with | [_, _], _ => rfl
  have F15 := fun_mk (st := s_with_turned) l15 c15 k15
  have b15 := F15.binds (ps := ["standing", "place"]) fun _ _ _ _ _ _ us hl => match us, hl with | [_, _], _ => rfl
  have F16 := fun_mk (st := s_switch_gate) l16 c16 k16
  have b16 := F16.binds (ps := ["net", "standing", "name"]) fun _ _ _ _ _ _ us hl => match us, hl with | [_, _, _], _ => rfl
  have F17 := fun_mk (st := s_calmed_in) l17 c17 k17
  have b17 := F17.binds (ps := ["net", "standing"]) fun _ _ _ _ _ _ us hl => match us, hl with | [_, _], _ => rfl
  have F18 := fun_mk (st := s_first_race) l18 c18 k18
  have b18 := F18.binds (ps := ["net", "standing"]) fun _ _ _ _ _ _ us hl => match us, hl with | [_, _], _ => rfl
  have F19 := fun_mk (st := s__law_class) l19 c19 k19
  have b19 := F19.binds (ps := ["e"]) fun _ _ _ _ _ _ us hl => match us, hl with | [_], _ => rfl
  have F20 := fun_mk (st := s_steps_from) l20 c20 k20
  have b20 := F20.binds (ps := ["net", "standing"]) fun _ _ _ _ _ _ us hl => match us, hl with | [_, _], _ => rfl
  have F21 := fun_mk (st := s_first_orders) l21 c21 k21
  have b21 := F21.binds (ps := ["net", "standing"]) fun _ _ _ _ _ _ us hl => match us, hl with | [_, _], _ => rfl
  have F22 := fun_mk (st := s_all_standings) l22 c22 k22
  have b22 := F22.binds (ps := ["net", "standing"]) fun _ _ _ _ _ _ us hl => match us, hl with | [_, _], _ => rfl
  have F23 := fun_mk (st := s_calm_paper) l23 c23 k23
  have b23 := F23.binds (ps := ["net", "standing"]) fun _ _ _ _ _ _ us hl => match us, hl with | [_, _], _ => rfl
  have F24 := fun_mk (st := s_is_standing) l24 c24 k24
  have b24 := F24.binds (ps := ["net", "text"]) fun _ _ _ _ _ _ us hl => match us, hl with | [_, _], _ => rfl
  have F25 := fun_mk (st := s_is_calm_in) l25 c25 k25
  have b25 := F25.binds (ps := ["net", "standing", "some"]) fun _ _ _ _ _ _ us hl => match us, hl with | [_, _, _], _ => rfl
  have F26 := fun_mk (st := s_calm_shows) l26 c26 k26
  have b26 := F26.binds (ps := ["net", "standing", "paper"]) fun _ _ _ _ _ _ us hl => match us, hl with | [_, _, _], _ => rfl
  have F27 := fun_mk (st := s__law_refused) l27 c27 k27
  have b27 := F27.binds (ps := ["way", "net", "thing", "paper"]) fun _ _ _ _ _ _ us hl => match us, hl with | [_, _, _, _], _ => rfl
  have F28 := fun_mk (st := s_law) l28 c28 k28
  have ee0 : EC.ec 0 = cx0 := clsA_of (k := 0) xg0
  have ee1 : EC.ec 1 = cx1 := clsA_of (k := 1) xg1
  have ee2 : EC.ec 2 = cx2 := clsA_of (k := 2) xg2
  have ee3 : EC.ec 3 = cx3 := clsA_of (k := 3) xg3
  have ee4 : EC.ec 4 = cx4 := clsA_of (k := 4) xg4
  have ee5 : EC.ec 5 = cx5 := clsA_of (k := 5) xg5
  have ee6 : EC.ec 6 = cx6 := clsA_of (k := 6) xg6
  have Fi := fun_mk (st := s_init) li ci ki
  have bi := Fi.binds (ps := ["self", "at"]) fun _ _ _ _ _ _ us hl => match us, hl with | [_, _], _ => rfl
  exact ⟨PySem.W.fnOf "law" "law" (defArgs s_law) (defBody s_law) (defScope s_law) .none kV28 dc28 pm28 an28 cd28 ct28, fun s v => .of_eq rfl, fun base _ _ => ok_law ⟨_, _, F0, b0, PySem.W.mg_of X G a0, _, _, F1, b1, PySem.W.mg_of X G a1, _, _, F2, b2, PySem.W.mg_of X G a2, _, _, F3, b3, PySem.W.mg_of X G a3, _, _, F4, b4, PySem.W.mg_of X G a4, _, _, F5, b5, PySem.W.mg_of X G a5, _, _, F6, b6, PySem.W.mg_of X G a6, _, _, F7, b7, PySem.W.mg_of X G a7, _, _, F8, b8, PySem.W.mg_of X G a8, _, _, F9, b9, PySem.W.mg_of X G a9, _, _, F10, b10, PySem.W.mg_of X G a10, _, _, F11, b11, PySem.W.mg_of X G a11, _, _, F12, b12, PySem.W.mg_of X G a12, _, _, F13, b13, PySem.W.mg_of X G a13, _, _, F14, b14, PySem.W.mg_of X G a14, _, _, F15, b15, PySem.W.mg_of X G a15, _, _, F16, b16, PySem.W.mg_of X G a16, _, _, F17, b17, PySem.W.mg_of X G a17, _, _, F18, b18, PySem.W.mg_of X G a18, _, _, F19, b19, PySem.W.mg_of X G a19, _, _, F20, b20, PySem.W.mg_of X G a20, _, _, F21, b21, PySem.W.mg_of X G a21, _, _, F22, b22, PySem.W.mg_of X G a22, _, _, F23, b23, PySem.W.mg_of X G a23, _, _, F24, b24, PySem.W.mg_of X G a24, _, _, F25, b25, PySem.W.mg_of X G a25, _, _, F26, b26, PySem.W.mg_of X G a26, _, _, F27, b27, PySem.W.mg_of X G a27, _, _, F28, PySem.W.mg_none_of X G z_ValueError, PySem.W.mg_none_of X G z_dict, PySem.W.mg_none_of X G z_int, PySem.W.mg_none_of X G z_isinstance, PySem.W.mg_none_of X G z_len, PySem.W.mg_none_of X G z_list, PySem.W.mg_none_of X G z_max, PySem.W.mg_none_of X G z_min, PySem.W.mg_none_of X G z_range, PySem.W.mg_none_of X G z_sorted, PySem.W.mg_none_of X G z_str, PySem.W.mg_none_of X G z_zip, xf_mk xall, (by rw [ee0]; exact PySem.W.mg_of X G xg0), (by rw [ee1]; exact PySem.W.mg_of X G xg1), (by rw [ee2]; exact PySem.W.mg_of X G xg2), (by rw [ee3]; exact PySem.W.mg_of X G xg3), (by rw [ee4]; exact PySem.W.mg_of X G xg4), (by rw [ee5]; exact PySem.W.mg_of X G xg5), (by rw [ee6]; exact PySem.W.mg_of X G xg6), (by rw [ee1]; exact xk1), (by rw [ee1]; exact xe1), (by rw [ee1]; exact xt1), fi, _, (by rw [ee6]; exact ⟨⟨nm, q, Nx, bs, bm, sn, sub, ab, col, dd, m0, m1, m2, m3, m5, xL, rv⟩, sa, ex6, ty6, kC6⟩), (by rw [ee6]; exact ai), ti, Fi, bi⟩⟩
end W

namespace W
open PySem VL
/-! steps -/
section
variable {α β : Type}
@[simp] theorem sx_ob (a : α) (k : α → Res β) : ob (some a) k = k a := rfl
@[simp] theorem sx_rb (a : α) (k : α → Res β) : rb (.ok a) k = k a := rfl
@[simp] theorem sx_on1 {Z R Q : Type} (z : Z) (a : Z → Res Q) (b : R → Res Q) : Fl.on (.nx z) a b = a z := rfl
@[simp] theorem sx_on2 {Z R Q : Type} (z : R) (a : Z → Res Q) (b : R → Res Q) : Fl.on (.rt z) a b = b z := rfl
end
@[simp] theorem sx_t0 {a : D} {l : List D} : ixD (.tup (a :: l)) (.int 0) = some a := ix_t (i := 0) rfl
@[simp] theorem sx_t1 {a b : D} {l : List D} : ixD (.tup (a :: b :: l)) (.int 1) = some b := ix_t (i := 1) rfl
@[simp] theorem sx_t2 {a b c : D} {l : List D} : ixD (.tup (a :: b :: c :: l)) (.int 2) = some c := ix_t (i := 2) rfl
@[simp] theorem sx_t3 {a b c d : D} {l : List D} : ixD (.tup (a :: b :: c :: d :: l)) (.int 3) = some d := ix_t (i := 3) rfl
@[simp] theorem sx_l0 {a : D} {l : List D} : ixD (.lst (a :: l)) (.int 0) = some a := ix_l (i := 0) rfl
@[simp] theorem sx_l1 {a b : D} {l : List D} : ixD (.lst (a :: b :: l)) (.int 1) = some b := ix_l (i := 1) rfl
@[simp] theorem sx_l2 {a b c : D} {l : List D} : ixD (.lst (a :: b :: c :: l)) (.int 2) = some c := ix_l (i := 2) rfl
@[simp] theorem sx_eqs (a b : List Nat) : eqD (.str a) (.str b) = some (a == b) := eq_str
@[simp] theorem sx_nes (a b : List Nat) : neD (.str a) (.str b) = some (!(a == b)) := ne_str
theorem eq_int {a b : Int} : eqD (.int a) (.int b) = some (a == b) := by
  unfold eqD
  rw [if_pos ⟨rfl, rfl, Nat.zero_le _⟩]
  simp [D.eqv]
@[simp] theorem sx_eqi (a b : Int) : eqD (.int a) (.int b) = some (a == b) := eq_int
@[simp] theorem sx_nei (a b : Int) : neD (.int a) (.int b) = some (!(a == b)) := by unfold neD; rw [eq_int]; rfl
@[simp] theorem sx_asL (l : List D) : asLst (.lst l) = some l := rfl
@[simp] theorem sx_asS (l : List Nat) : asStr (.str l) = some l := rfl
@[simp] theorem sx_asB (b : Bool) : asB (.bl b) = some b := rfl
@[simp] theorem sx_asI (b : Int) : asI (.int b) = some b := rfl
@[simp] theorem sx_len (l : List D) : lenD (.lst l) = some (.int l.length) := rfl
@[simp] theorem sx_lent (l : List D) : lenD (.tup l) = some (.int l.length) := rfl
@[simp] theorem sx_add (a b : Int) : addD (.int a) (.int b) = some (.int (a + b)) := rfl
@[simp] theorem sx_sub (a b : Int) : subD (.int a) (.int b) = some (.int (a - b)) := rfl
@[simp] theorem sx_neg (a : Int) : negD (.int a) = some (.int (-a)) := rfl
@[simp] theorem sx_lt (a b : Int) : ltD (.int a) (.int b) = some (decide (a < b)) := rfl
@[simp] theorem sx_le (a b : Int) : leD (.int a) (.int b) = some (decide (a ≤ b)) := rfl
@[simp] theorem sx_gt (a b : Int) : gtD (.int a) (.int b) = some (decide (b < a)) := rfl
@[simp] theorem sx_ge (a b : Int) : geD (.int a) (.int b) = some (decide (b ≤ a)) := rfl
@[simp] theorem sx_min (a b : Int) : minD (.int a) (.int b) = some (.int (if b < a then b else a)) := rfl
@[simp] theorem sx_max (a b : Int) : maxD (.int a) (.int b) = some (.int (if b > a then b else a)) := rfl
@[simp] theorem sx_list (l : List D) : listD (.lst l) = some l := rfl
@[simp] theorem sx_listT (l : List D) : listD (.tup l) = some l := rfl
@[simp] theorem sx_un2 (a b : D) : un2 (.tup [a, b]) = some (a, b) := rfl
@[simp] theorem sx_un3 (a b c : D) : un3 (.tup [a, b, c]) = some (a, b, c) := rfl
@[simp] theorem sx_un4 (a b c d : D) : un4 (.tup [a, b, c, d]) = some (a, b, c, d) := rfl
@[simp] theorem sx_isKs (a : List Nat) : isK (.str a) .str = some true := rfl
@[simp] theorem sx_isKl (a : List D) : isK (.lst a) .list = some true := rfl
@[simp] theorem sx_isKt (a : List D) : isK (.tup a) .tuple = some true := rfl
@[simp] theorem sx_intB (b : Bool) : intD (.bl b) = some (.int (if b then 1 else 0)) := rfl
@[simp] theorem sx_intI (b : Int) : intD (.int b) = some (.int b) := rfl
/-! small lists -/
theorem pigeon {α : Type} [DecidableEq α] : ∀ {a b : List α}, a.Nodup → (∀ x ∈ a, x ∈ b) → a.length ≤ b.length
  | [], _, _, _ => Nat.zero_le _
  | x :: r, b, nd, h => by
    have hx : x ∈ b := h x List.mem_cons_self
    rw [List.nodup_cons] at nd
    have := pigeon (a := r) (b := b.erase x) nd.2 fun y hy => by
      have : y ≠ x := fun e => nd.1 (e ▸ hy)
      exact (List.mem_erase_of_ne this).mpr (h y (List.mem_cons_of_mem _ hy))
    rw [List.length_erase_of_mem hx] at this
    have : 0 < b.length := List.length_pos_of_mem hx
    simp only [List.length_cons]; omega
theorem ix_neg1 {l : List D} {d : D} (h : l[l.length - 1]? = some d) (hl : 0 < l.length) : ixD (.lst l) (.int (-1)) = some d := by
  show L2.atI l _ = _
  unfold L2.atI L2.ixN
  rw [if_neg (by omega), if_pos (by omega), show ((-1 : Int) + l.length).toNat = l.length - 1 by omega]
  exact h
theorem ix_sn {s : List Nat} {i c : Nat} (h : s[i]? = some c) (hl : s.length ≤ 1000) : ixD (.str s) (.int (i : Nat)) = some (.str [c]) := ix_s h (by omega)
theorem slS_to {s : List Nat} {n : Nat} (h : n ≤ s.length) (hl : s.length ≤ 1000) : slS none (some (n : Nat)) (.str s) = some (.str (s.take n)) := by
  show (if s.length ≤ 16777216 then _ else none) = _
  rw [if_pos (by omega), cut_to _ _ h]
theorem slS_from {s : List Nat} {n : Nat} (h : n ≤ s.length) (hl : s.length ≤ 1000) : slS (some (n : Nat)) none (.str s) = some (.str (s.drop n)) := by
  show (if s.length ≤ 16777216 then _ else none) = _
  rw [if_pos (by omega), cut_from _ _ h]
theorem joinS_nil : ∀ l : List (List Nat), joinS [] l = l.flatten
  | [] => rfl
  | [x] => by simp [joinS]
  | x :: y :: r => by
    show x ++ [] ++ joinS [] (y :: r) = _
    rw [joinS_nil (y :: r)]; simp
/-! draws out of a deck -/
def St3 (l : List D) : Prop := ∃ a b c : Int, l = [.int a, .int b, .int c]
structure Dk (d : List (List D) × D) : Prop where
  n0 : 0 < d.1.length
  n1 : d.1.length ≤ 1000
  c : ∃ c : Int, d.2 = .int c
  p : ∀ l ∈ d.1, St3 l
theorem Dk.set {d : List (List D) × D} (h : Dk d) (j : Nat) {l : List D} (hl : St3 l) (c : Int) : Dk (d.1.set j l, .int c) :=
  ⟨by simpa using h.n0, by simpa using h.n1, ⟨c, rfl⟩, fun x hx => by
    rcases List.mem_or_eq_of_mem_set hx with h1 | h1
    · exact h.p x h1
    · exact h1 ▸ hl⟩
end W
namespace W
open PySem VL
/-! a comprehension with its turn -/
theorem sat_fmSn {Z : Type} {f : Z → D → Res (Option D × Z)} {I : Nat → Z → List D → Prop} : ∀ (ds : List D) (z0 : Z) (acc : List D) (n : Nat), I n z0 acc → (∀ i z d acc, ds[i]? = some d → I (n + i) z acc → Sat (f z d) (fun o => I (n + i + 1) o.2 (accD acc o.1))) → Sat (fmS ds z0 f) (fun p => I (n + ds.length) p.2 (acc ++ p.1))
  | [], z0, acc, n, h0, _ => ⟨_, rfl, by show I (n + 0) z0 (acc ++ []); rw [List.append_nil]; exact h0⟩
  | d :: r, z0, acc, n, h0, h => by
    refine sat_rb (h 0 z0 d acc rfl h0) fun o ho => ?_
    have := sat_fmSn r o.2 (accD acc o.1) (n + 1) ho fun i z d acc e hi => by
      have := h (i + 1) z d acc (by simpa using e) (by rw [show n + (i + 1) = n + 1 + i by omega]; exact hi)
      rwa [show n + (i + 1) = n + 1 + i by omega] at this
    refine sat_rb this fun q hq => ⟨_, rfl, ?_⟩
    rw [show n + 1 + r.length = n + (d :: r).length by simp; omega] at hq
    cases e : o.1 with
    | none => rw [e] at hq; exact hq
    | some y =>
      rw [e] at hq
      have : acc ++ [y] ++ q.1 = acc ++ (y :: q.1) := by simp
      rw [← this]; exact hq
def rngL (n : Nat) : List D := (List.range n).map fun k => .int (k : Nat)
theorem rng_n {n : Nat} (h : n ≤ 16777216) : rngD (.int 0) (.int (n : Nat)) = some (rngL n) := rng0 h
theorem rngL_len (n : Nat) : (rngL n).length = n := by simp [rngL]
theorem rngL_get {n i : Nat} {d : D} (h : (rngL n)[i]? = some d) : i < n ∧ d = .int (i : Nat) := by
  have hi : i < n := by
    have := (List.getElem?_eq_some_iff.mp h).1
    simpa [rngL] using this
  refine ⟨hi, ?_⟩
  rw [rngL, List.getElem?_map, List.getElem?_range hi] at h
  cases h; rfl
/-! texts -/
def chD (c : Nat) : D := .str [c]
theorem strLD_eq {s : List Nat} (h : s.length ≤ 1000) : strLD (.str s) = some (s.map chD) := by
  show (if s.length ≤ 16777216 then _ else none) = _
  rw [if_pos (by omega)]; rfl
theorem strsD_ch : ∀ s : List Nat, strsD (s.map chD) = some (s.map fun c => [c])
  | [] => rfl
  | c :: r => by
    show (strsD (r.map chD)).map ([c] :: ·) = _
    rw [strsD_ch r]; rfl
theorem join_ch {s : List Nat} (h : s.length ≤ 1000) : joinD (.str []) (.lst (s.map chD)) = some (.str s) := by
  show (match strsD (s.map chD) with | some ys => _ | none => none) = _
  rw [strsD_ch]
  have e1 : ((s.map fun c => [c]).map List.length).sum = s.length := by
    clear h
    induction s with
    | nil => rfl
    | cons c r ih => simp at ih ⊢; omega
  have e2 : (s.map fun c => [c]).flatten = s := by
    clear h e1
    induction s with
    | nil => rfl
    | cons c r ih => simp at ih ⊢; exact ih
  simp only
  rw [if_pos (by rw [e1]; simp; omega), joinS_nil, e2]
def Low (s : List Nat) : Prop := ∀ c ∈ s, 97 ≤ c ∧ c ≤ 122
structure Word (w : List Nat) : Prop where
  l0 : 1 ≤ w.length
  l1 : w.length ≤ 8
  lo : Low w
theorem Low.take {a : List Nat} (h : Low a) (n : Nat) : Low (a.take n) := fun c hc => h c (List.mem_of_mem_take hc)
theorem Low.drop {a : List Nat} (h : Low a) (n : Nat) : Low (a.drop n) := fun c hc => h c (List.mem_of_mem_drop hc)
theorem Low.one {c : Nat} (h : 97 ≤ c ∧ c ≤ 122) : Low [c] := fun x hx => by
  rw [List.mem_singleton] at hx; subst hx; exact h
def dn (l : List (List Nat)) : List D := l.map .str
theorem dn_len (l : List (List Nat)) : (dn l).length = l.length := by simp [dn]
theorem dn_get {l : List (List Nat)} {i : Nat} {w : List Nat} (h : l[i]? = some w) : (dn l)[i]? = some (.str w) := by simp [dn, h]
theorem dn_plain (l : List (List Nat)) : D.plains (dn l) = true := by
  rw [plains_iff]
  intro d hd
  simp only [dn, List.mem_map] at hd
  obtain ⟨_, _, rfl⟩ := hd; rfl
theorem dn_dep (l : List (List Nat)) : D.deps (dn l) = 0 := by
  have := deps_le (l := dn l) (n := 0) fun d hd => by
    simp only [dn, List.mem_map] at hd
    obtain ⟨_, _, rfl⟩ := hd; exact Nat.zero_le _
  omega
theorem addS {a b : List Nat} (h : a.length + b.length ≤ 1000) : addD (.str a) (.str b) = some (.str (a ++ b)) := add_s (by omega)
end W
namespace W
open PySem VL
theorem fmR_xs {α : Type} {e : α → D} {f : D → Res (Option D)} {g : α → Option D} : ∀ (xs : List α), (∀ x ∈ xs, f (e x) = .ok (g x)) → fmR (xs.map e) f = .ok (xs.filterMap g)
  | [], _ => rfl
  | x :: r, h => by
    show rb (f (e x)) _ = _
    rw [h x List.mem_cons_self]
    show rb (fmR (r.map e) f) _ = _
    rw [fmR_xs r fun y hy => h y (List.mem_cons_of_mem _ hy)]
    rw [List.filterMap_cons]
    cases g x <;> rfl
theorem filterMap_if {α β : Type} (p : α → Bool) (f : α → β) : ∀ xs : List α, xs.filterMap (fun x => if p x = true then some (f x) else none) = (xs.filter p).map f
  | [] => rfl
  | x :: r => by
    rw [List.filterMap_cons, List.filter_cons, filterMap_if p f r]
    cases p x <;> rfl
theorem eq_bl (a b : Bool) : eqD (.bl a) (.bl b) = some (a == b) := by
  unfold eqD
  rw [if_pos ⟨rfl, rfl, Nat.zero_le _⟩]
  simp [D.eqv]
@[simp] theorem sx_eqb (a b : Bool) : eqD (.bl a) (.bl b) = some (a == b) := eq_bl a b
@[simp] theorem sx_neb (a b : Bool) : neD (.bl a) (.bl b) = some (!(a == b)) := by unfold neD; rw [eq_bl]; rfl
end W

namespace W
open PySem VL
end W

namespace W
open PySem VL
/-! rules -/
inductive Rl where
  | wire (n : List Nat) | neg (r : Rl) | conj (a b : Rl) | disj (a b : Rl)
def Rl.d : Rl → D
  | .wire n => .tup [.str q_wire, .str n]
  | .neg r => .tup [.str q_not, r.d]
  | .conj a b => .tup [.str q_and, a.d, b.d]
  | .disj a b => .tup [.str q_or, a.d, b.d]
def Rl.dp : Rl → Nat
  | .wire _ => 1
  | .neg r => r.dp + 1
  | .conj a b => max a.dp b.dp + 1
  | .disj a b => max a.dp b.dp + 1
def Rl.over (ns : List (List Nat)) : Rl → Prop
  | .wire n => n ∈ ns
  | .neg r => r.over ns
  | .conj a b => a.over ns ∧ b.over ns
  | .disj a b => a.over ns ∧ b.over ns
theorem Rl.plain : ∀ r : Rl, r.d.plain = true
  | .wire _ => rfl
  | .neg r => by simp [Rl.d, D.plain, D.plains, Rl.plain r]
  | .conj a b => by simp [Rl.d, D.plain, D.plains, Rl.plain a, Rl.plain b]
  | .disj a b => by simp [Rl.d, D.plain, D.plains, Rl.plain a, Rl.plain b]
theorem Rl.depth : ∀ r : Rl, r.d.dep ≤ r.dp
  | .wire _ => by simp [Rl.d, D.dep, D.deps, Rl.dp]
  | .neg r => by have := Rl.depth r; simp [Rl.d, D.dep, D.deps, Rl.dp]; omega
  | .conj a b => by have := Rl.depth a; have := Rl.depth b; simp [Rl.d, D.dep, D.deps, Rl.dp]; omega
  | .disj a b => by have := Rl.depth a; have := Rl.depth b; simp [Rl.d, D.dep, D.deps, Rl.dp]; omega
/-! nets -/
structure Nt where
  ins : List (List Nat)
  gs : List (List Nat × Rl)
def gD (g : List Nat × Rl) : D := .tup [.str g.1, g.2.d]
def Nt.d (n : Nt) : D := .tup [.lst (dn n.ins), .lst (n.gs.map gD)]
def Nt.gn (n : Nt) : List (List Nat) := n.gs.map (·.1)
def Nt.ws (n : Nt) : List (List Nat) := n.ins ++ n.gn
structure Nt.Ok (n : Nt) : Prop where
  i : n.ins.length ≤ 4
  g0 : 1 ≤ n.gs.length
  g1 : n.gs.length ≤ 7
  nd : n.ws.Nodup
  w : ∀ x ∈ n.ws, Word x
  r : ∀ g ∈ n.gs, g.2.dp ≤ 10 ∧ g.2.over n.ws
theorem Nt.ws_len (n : Nt) : n.ws.length = n.ins.length + n.gs.length := by simp [Nt.ws, Nt.gn]
theorem gs_plain (gs : List (List Nat × Rl)) : D.plains (gs.map gD) = true := by
  rw [plains_iff]
  intro d hd
  simp only [List.mem_map] at hd
  obtain ⟨g, _, rfl⟩ := hd
  simp [gD, D.plain, D.plains, Rl.plain]
theorem gs_dep {gs : List (List Nat × Rl)} (h : ∀ g ∈ gs, g.2.dp ≤ 20) : D.deps (gs.map gD) ≤ 21 := by
  refine deps_le fun d hd => ?_
  simp only [List.mem_map] at hd
  obtain ⟨g, hg, rfl⟩ := hd
  have := Rl.depth g.2
  have := h g hg
  simp [gD, D.dep, D.deps]; omega
theorem Nt.plain (n : Nt) : n.d.plain = true := by
  simp only [Nt.d, D.plain, D.plains, Bool.and_true, Bool.and_eq_true]
  exact ⟨dn_plain _, gs_plain _⟩
theorem Nt.dep {n : Nt} (h : n.Ok) : n.d.dep ≤ 60 := by
  have := gs_dep (gs := n.gs) fun g hg => by have := (h.r g hg).1; omega
  simp only [Nt.d, D.dep, D.deps, dn_dep]
  omega
def heldR (a b c : Rl) : Rl := .disj (.conj a b) (.conj c (.disj a b))
def Bits (s : List Nat) : Prop := ∀ c ∈ s, c = 48 ∨ c = 49
end W

namespace W
open PySem VL
/-! signs by names -/
/-- the sign of a name -/
def sg (ws : List (List Nat)) (s : List Nat) (w : List Nat) : Nat := s.getD (ws.idxOf w) 48
/-! worths -/
def Rl.val (σ : List Nat → Nat) : Rl → Bool
  | .wire n => σ n == 49
  | .neg r => !r.val σ
  | .conj a b => a.val σ && b.val σ
  | .disj a b => a.val σ || b.val σ
def bitC (b : Bool) : Nat := if b then 49 else 48
/-! wires -/
end W

namespace W
open PySem VL
end W

namespace W
open PySem VL
end W

namespace W
open PySem VL
/-! asked gates -/
def askB (σ : List Nat → Nat) (g : List Nat × Rl) : Bool := !(g.2.val σ == (σ g.1 == 49))
def Nt.ask (N : Nt) (s : List Nat) : List (List Nat) := (N.gs.filter (askB (sg N.ws s))).map (·.1)
end W

namespace W
open PySem VL
/-! a sign turned -/
def flipS (s : List Nat) (i : Nat) : List Nat := s.take i ++ [bitC (!(s.getD i 0 == 49))] ++ s.drop (i + 1)
theorem flipS_len {s : List Nat} {i : Nat} (h : i < s.length) : (flipS s i).length = s.length := by
  simp [flipS]; omega
theorem bitC_b (b : Bool) : bitC b = 48 ∨ bitC b = 49 := by cases b; exact .inl rfl; exact .inr rfl
theorem flipS_bits {s : List Nat} {i : Nat} (b : Bits s) : Bits (flipS s i) := by
  intro c hc
  simp only [flipS, List.mem_append, List.mem_singleton] at hc
  rcases hc with (hc | hc) | hc
  · exact b c (List.mem_of_mem_take hc)
  · rw [hc]; exact bitC_b _
  · exact b c (List.mem_of_mem_drop hc)
/-! refusals -/
end W

namespace W
open PySem VL
/-! sorted, of names -/
def leN (a b : List Nat) : Bool := decide (a ≤ b)
theorem leD_str (a b : List Nat) : leD' (.str a) (.str b) = leN a b := by
  have h := congrFun (congrFun (PySem.W.dataLe_str (β := List Nat) mkS) a) b
  rw [mkS_cps, mkS_cps] at h
  exact h
theorem sort_dn {l : List (List Nat)} (h : l.length ≤ 1000) : sortD (.lst (dn l)) = some (dn (l.mergeSort leN)) := by
  have hok : sortOk (dn l) = true := by
    simp only [sortOk, Bool.and_eq_true, Bool.or_eq_true, decide_eq_true_eq]
    refine ⟨⟨⟨⟨dn_plain l, by rw [dn_dep]; omega⟩, ?_⟩, .inr ?_⟩, by rw [dn_len]; omega⟩
    · refine List.all_eq_true.mpr fun x hx => List.all_eq_true.mpr fun y hy => ?_
      obtain ⟨a, _, rfl⟩ := List.mem_map.mp hx
      obtain ⟨b, _, rfl⟩ := List.mem_map.mp hy
      rfl
    · refine List.all_eq_true.mpr fun x hx => ?_
      obtain ⟨a, _, rfl⟩ := List.mem_map.mp hx
      rfl
  show (if sortOk (dn l) = true then some ((dn l).mergeSort leD') else none) = _
  rw [if_pos hok]
  congr 1
  exact (List.map_mergeSort fun a _ b _ => (leD_str a b).symm).symm
end W

namespace W
open PySem VL
/-! orders, permutations -/
theorem perm_erase {α : Type} : ∀ (l : List α) (i : Nat) (x : α), l[i]? = some x → (x :: l.eraseIdx i).Perm l
  | [], i, x, h => by simp at h
  | a :: r, 0, x, h => by simp at h; subst h; simp
  | a :: r, i + 1, x, h => by
    have ih := perm_erase r i x (by simpa using h)
    exact (List.Perm.swap a x _).trans (ih.cons a)
theorem popAt_l {l : List D} {i : Nat} {d : D} (h : l[i]? = some d) : popAtL l (.int (i : Nat)) = some (d, l.eraseIdx i) := by
  have hl := (List.getElem?_eq_some_iff.mp h).1
  have e : L2.ixN l.length (i : Int) = some i := by simp [L2.ixN]; omega
  simp only [popAtL, e, h]
/-! names for names -/
def ren (ws vs : List (List Nat)) (w : List Nat) : List Nat := vs.getD (ws.idxOf w) []
theorem ren_lt {ws vs : List (List Nat)} {w : List Nat} (h : w ∈ ws) (hl : ws.length ≤ vs.length) : ws.idxOf w < vs.length := Nat.lt_of_lt_of_le (List.idxOf_lt_length_iff.mpr h) hl
theorem ren_mem {ws vs : List (List Nat)} {w : List Nat} (h : w ∈ ws) (hl : ws.length ≤ vs.length) : ren ws vs w ∈ vs := by
  unfold ren
  rw [List.getD_eq_getElem?_getD, List.getElem?_eq_getElem (ren_lt h hl)]
  exact List.getElem_mem _
theorem ren_inj {ws vs : List (List Nat)} (nd : vs.Nodup) (hl : ws.length ≤ vs.length) {a b : List Nat} (ha : a ∈ ws) (hb : b ∈ ws) (e : ren ws vs a = ren ws vs b) : a = b := by
  unfold ren at e
  rw [List.getD_eq_getElem?_getD, List.getD_eq_getElem?_getD, List.getElem?_eq_getElem (ren_lt ha hl), List.getElem?_eq_getElem (ren_lt hb hl)] at e
  have := (List.getElem_inj nd).mp e
  have h1 := List.getElem_idxOf (List.idxOf_lt_length_iff.mpr ha)
  have h2 := List.getElem_idxOf (List.idxOf_lt_length_iff.mpr hb)
  rw [← h1, ← h2]
  simp only [this]
def Rl.ren (f : List Nat → List Nat) : Rl → Rl
  | .wire n => .wire (f n)
  | .neg r => .neg (r.ren f)
  | .conj a b => .conj (a.ren f) (b.ren f)
  | .disj a b => .disj (a.ren f) (b.ren f)
theorem Rl.ren_dp (f : List Nat → List Nat) : ∀ r : Rl, (r.ren f).dp = r.dp
  | .wire _ => rfl
  | .neg r => by simp [Rl.ren, Rl.dp, Rl.ren_dp f r]
  | .conj a b => by simp [Rl.ren, Rl.dp, Rl.ren_dp f a, Rl.ren_dp f b]
  | .disj a b => by simp [Rl.ren, Rl.dp, Rl.ren_dp f a, Rl.ren_dp f b]
theorem Rl.ren_over {f : List Nat → List Nat} {ws us : List (List Nat)} (h : ∀ w ∈ ws, f w ∈ us) : ∀ r : Rl, r.over ws → (r.ren f).over us
  | .wire n, o => h n o
  | .neg r, o => Rl.ren_over h r o
  | .conj a b, o => ⟨Rl.ren_over h a o.1, Rl.ren_over h b o.2⟩
  | .disj a b, o => ⟨Rl.ren_over h a o.1, Rl.ren_over h b o.2⟩
/-! the net that is named otherwise -/
structure Ren (N N' : Nt) (vs : List (List Nat)) : Prop where
  nd : vs.Nodup
  hl : N.ws.length ≤ vs.length
  w : ∀ v ∈ vs, Word v
  ins : N'.ins.Perm (N.ins.map (ren N.ws vs))
  gs : N'.gs.Perm (N.gs.map fun g => (ren N.ws vs g.1, g.2.ren (ren N.ws vs)))
theorem nodup_map {α β : Type} {f : α → β} : ∀ {l : List α}, l.Nodup → (∀ a ∈ l, ∀ b ∈ l, f a = f b → a = b) → (l.map f).Nodup
  | [], _, _ => List.nodup_nil
  | x :: r, nd, h => by
    rw [List.nodup_cons] at nd
    rw [List.map_cons, List.nodup_cons]
    refine ⟨fun m => ?_, nodup_map nd.2 fun a ha b hb => h a (List.mem_cons_of_mem _ ha) b (List.mem_cons_of_mem _ hb)⟩
    obtain ⟨y, hy, e⟩ := List.mem_map.mp m
    exact nd.1 (h y (List.mem_cons_of_mem _ hy) x List.mem_cons_self e ▸ hy)
theorem Ren.ws {N N' : Nt} {vs : List (List Nat)} (r : Ren N N' vs) : N'.ws.Perm (N.ws.map (ren N.ws vs)) := by
  have h2 : N'.gn.Perm (N.gn.map (ren N.ws vs)) := by
    have := r.gs.map (·.1)
    simpa [Nt.gn, List.map_map, Function.comp_def] using this
  rw [show N.ws.map (ren N.ws vs) = N.ins.map (ren N.ws vs) ++ N.gn.map (ren N.ws vs) from List.map_append]
  exact List.Perm.append r.ins h2
theorem Ren.ok {N N' : Nt} {vs : List (List Nat)} (ok : N.Ok) (r : Ren N N' vs) : N'.Ok := by
  have hw := r.ws
  have hm : ∀ x ∈ N'.ws, ∃ w ∈ N.ws, ren N.ws vs w = x := fun x hx => List.mem_map.mp (hw.mem_iff.mp hx)
  refine ⟨?_, ?_, ?_, ?_, ?_, ?_⟩
  · rw [r.ins.length_eq, List.length_map]; exact ok.i
  · rw [r.gs.length_eq, List.length_map]; exact ok.g0
  · rw [r.gs.length_eq, List.length_map]; exact ok.g1
  · exact (hw.nodup_iff).mpr (nodup_map ok.nd fun a ha b hb => ren_inj r.nd r.hl ha hb)
  · intro x hx
    obtain ⟨w, hw, rfl⟩ := hm x hx
    exact r.w _ (ren_mem hw r.hl)
  · intro g hg
    obtain ⟨g0, hg0, rfl⟩ := List.mem_map.mp (r.gs.mem_iff.mp hg)
    obtain ⟨h1, h2⟩ := ok.r g0 hg0
    refine ⟨by rw [Rl.ren_dp]; exact h1, Rl.ren_over (fun w hw' => ?_) _ h2⟩
    exact hw.mem_iff.mpr (List.mem_map.mpr ⟨w, hw', rfl⟩)
end W

namespace W
open PySem VL
/-! draws: a list of numbers below 10007 -/
def nD (xs : List Nat) : List D := xs.map fun n => D.int (n : Nat)
theorem nD_get {xs : List Nat} {i x : Nat} (h : xs[i]? = some x) : (nD xs)[i]? = some (.int (x : Nat)) := by simp [nD, h]
structure Dw (xs : List Nat) (many : Nat) : Prop where
  lo : many ≤ xs.length
  hi : xs.length ≤ 1000
  b : ∀ x ∈ xs, x < 10007
theorem Dw.at {xs : List Nat} {many : Nat} (h : Dw xs many) {i : Nat} (hi : i < many) : ∃ x, ixD (.lst (nD xs)) (.int (i : Nat)) = some (.int (x : Nat)) ∧ x < 10007 ∧ xs[i]? = some x := by
  have hl := h.lo
  have e := List.getElem?_eq_getElem (show i < xs.length by omega)
  exact ⟨xs[i], ix_l (nD_get e), h.b _ (List.getElem_mem _), e⟩
theorem add_b (a b : Nat) : addD (.int (a : Nat)) (.int (b : Nat)) = some (.int ((a + b : Nat) : Int)) := by
  rw [add_i]; congr 2
theorem md_nat (a n : Nat) (h : 0 < n) : modD (.int (a : Nat)) (.int (n : Nat)) = some (.int ((a % n : Nat) : Int)) := by
  rw [mod_i (by omega)]; congr 2
end W

namespace W
open PySem VL
theorem slL_to' {s : List D} {n : Nat} : slL none (some (n : Nat)) (.lst s) = some (s.take n) := by
  show some (cut s _ _) = _
  unfold cut
  rw [HT.sIx_nat, HT.sIx_none]
  congr 1
  simp [List.take_eq_take_iff]
theorem slL_fr' {s : List D} {n : Nat} : slL (some (n : Nat)) none (.lst s) = some (s.drop n) := by
  show some (cut s _ _) = _
  unfold cut
  rw [HT.sIx_nat, HT.sIx_none]
  congr 1
  by_cases h : n ≤ s.length
  · rw [Nat.min_eq_left h, List.take_of_length_le (by simp)]
  · rw [Nat.min_eq_right (by omega), List.drop_of_length_le (Nat.le_refl _), List.drop_of_length_le (by omega)]; simp
theorem dn_take (l : List (List Nat)) (n : Nat) : (dn l).take n = dn (l.take n) := by simp [dn]
theorem dn_drop (l : List (List Nat)) (n : Nat) : (dn l).drop n = dn (l.drop n) := by simp [dn]
theorem addI1 (n : Nat) : addD (.int (n : Nat)) (.int 1) = some (.int ((n + 1 : Nat) : Int)) := by rw [add_i]; congr 2
theorem add1I (n : Nat) : addD (.int 1) (.int (n : Nat)) = some (.int ((1 + n : Nat) : Int)) := by rw [add_i]; congr 2
end W

namespace W
open PySem VL
theorem subI1 {n : Nat} (h : 1 ≤ n) : subD (.int (n : Nat)) (.int 1) = some (.int ((n - 1 : Nat) : Int)) := by
  rw [sx_sub]; congr 2; omega
section
variable {xs : List Nat} {many : Nat}
end
/-! nets of names by their places -/
def nm (ns : List (List Nat)) (i : Nat) : List Nat := ns.getD i []
section
variable {ns : List (List Nat)} (hl : ns.length = 11) (nd : ns.Nodup) (hw : ∀ w ∈ ns, Word w)
include hl nd hw
end
end W

namespace W
open PySem VL
theorem ix_01b {b : Nat} (h : b < 2) : ∃ c, ixD (.str q_01) (.int (b : Nat)) = some (chD c) ∧ (c = 48 ∨ c = 49) := by
  match b, h with
  | 0, _ => exact ⟨48, ix_sn (i := 0) rfl (by decide), .inl rfl⟩
  | 1, _ => exact ⟨49, ix_sn (i := 1) rfl (by decide), .inr rfl⟩
end W

namespace W
open PySem VL
/-! draws -/
def St (l : List D) : Prop := ∃ g s c : Int, l = [.int g, .int s, .int c]
theorem take_ok {l : List D} {n : Nat} (h : St l) (h0 : 0 < n) (h1 : n < 1073741824) : Sat (m__law_take l (.int (n : Nat))) (fun r => (∃ k : Nat, r.1 = .int (k : Nat) ∧ k < n) ∧ St r.2) := by
  obtain ⟨g, s, c, rfl⟩ := h
  unfold m__law_take
  refine sat_ob (c := D.int g) rfl (sat_ob (c := decide (0 < g)) rfl (sat_if (fun hg => ?_) fun hg => ?_))
  · refine sat_ob (c := D.int g) rfl (sat_ob (mod_i (by omega)) (sat_ob (c := D.int g) rfl (sat_ob (fdiv_i (by omega)) (sat_ob (c := [.int (g / n), .int s, .int c]) rfl (sat_ok ⟨⟨(g % n).toNat, ?_, ?_⟩, _, _, _, rfl⟩)))))
    · have := Int.emod_nonneg g (show (n : Int) ≠ 0 by omega)
      show D.int (g % n) = _
      rw [Int.toNat_of_nonneg this]
    · have := Int.emod_nonneg g (show (n : Int) ≠ 0 by omega)
      have := Int.emod_lt_of_pos g (show (0 : Int) < n by omega)
      omega
  · refine sat_ob (c := D.int c) rfl (sat_ob (c := D.int (c + 1)) rfl (sat_ob (c := [.int g, .int s, .int (c + 1)]) rfl ?_))
    refine sat_ob (c := D.int s) rfl (sat_ob (c := D.int (c + 1)) rfl (sat_ob (mul_l (by decide)) (sat_ob (c := D.int (s + 7919 * (c + 1))) rfl ?_)))
    generalize s + 7919 * (c + 1) = x
    refine sat_ob (mul_r (by decide)) (sat_ob (mod_i (by decide)) ?_)
    have b1 := Int.emod_nonneg (x * 48271) (show (2147483647 : Int) ≠ 0 by decide)
    have b2 := Int.emod_lt_of_pos (x * 48271) (show (0 : Int) < 2147483647 by decide)
    generalize x * 48271 % 2147483647 = y at b1 b2
    refine sat_ob (mul_l ⟨by omega, by omega⟩) (sat_ob (mod_i (by decide)) ?_)
    generalize y * y % 2147483629 = u
    refine sat_ob (c := D.int (c + 1)) rfl (sat_ob (mul_l (by decide)) (sat_ob (c := D.int (u + 40692 * (c + 1))) rfl ?_))
    generalize u + 40692 * (c + 1) = v
    refine sat_ob (mul_r (by decide)) (sat_ob (mod_i (by decide)) ?_)
    generalize v * 69621 % 2147483587 = t
    refine sat_ob (fdiv_i (by decide)) (sat_ob (mod_i (by omega)) (sat_ok ⟨⟨(t / 8 % n).toNat, ?_, ?_⟩, _, _, _, rfl⟩))
    · have := Int.emod_nonneg (t / 8) (show (n : Int) ≠ 0 by omega)
      show D.int (t / 8 % n) = _
      rw [Int.toNat_of_nonneg this]
    · have := Int.emod_nonneg (t / 8) (show (n : Int) ≠ 0 by omega)
      have := Int.emod_lt_of_pos (t / 8) (show (0 : Int) < n by omega)
      omega
theorem store_ok (c : Int) : Sat (m__law_store (.int c)) St := by
  unfold m__law_store
  refine sat_rb (P := fun d => ∃ g, d = .int g) ?_ fun d ⟨g, e⟩ => ?_
  · refine sat_ob (c := D.int (10 ^ 18)) rfl (sat_ob (c := decide (10 ^ 18 ≤ c)) rfl (sat_if (fun _ => sat_ok ⟨_, rfl⟩) fun _ => sat_ok ⟨0, rfl⟩))
  · subst e
    exact sat_ob (mod_i (by decide)) (sat_ok ⟨_, _, _, rfl⟩)
theorem cell_ok (ns : List Int) (h : ns.length ≤ 63) (k : Nat) (hk0 : k ≤ 1000) : Sat (m__law_cell (.lst (ns.map .int)) (.int (k : Nat))) (fun d => ∃ c, d = .int c) := by
  unfold m__law_cell
  refine sat_ob (c := D.int (ns.map D.int).length) rfl (sat_ob (c := decide ((k : Int) < (ns.map D.int).length)) rfl (sat_if (fun hk => ?_) fun hk => ?_))
  · have hk : (k : Int) < (ns.map D.int).length := of_decide_eq_true hk
    have hk' : k < ns.length := by simpa using hk
    refine sat_ob (c := D.int ns[k]) (ix_l (by rw [List.getElem?_map, List.getElem?_eq_getElem hk']; rfl)) (sat_ok ⟨_, rfl⟩)
  · exact sat_ob (mul_l (by decide)) (sat_ob (mul_l ⟨by omega, by omega⟩) (sat_ob (mul_l (by decide)) (sat_ob rfl (sat_ob rfl (sat_ok ⟨_, rfl⟩)))))
end W

namespace W
open PySem VL
/-! the family of races: draws out of a store -/
def spare15 : List (List Nat) := [q_a, q_b, q_c, q_ab, q_ba, q_hold, q_set, q_x, q_zzzzzzzz, q_aa, q_wire, q_not, q_and, q_or, q_q]
theorem spare15_ok : spare15.Nodup ∧ ∀ v ∈ spare15, Word v := by
  refine ⟨by decide, fun v hv => ?_⟩
  simp only [spare15, List.mem_cons, List.not_mem_nil, or_false] at hv
  rcases hv with h | h | h | h | h | h | h | h | h | h | h | h | h | h | h <;> (subst h; exact ⟨by decide, by decide, fun c hc => by simp at hc; omega⟩)
theorem rnames_ok {l : List D} (h : St l) {many : Nat} (hm : many ≤ 15) : Sat (m__law_names l (.int (many : Nat))) (fun r => ∃ ns : List (List Nat), r.1 = dn ns ∧ ns.length = many ∧ ns.Nodup ∧ (∀ w ∈ ns, Word w) ∧ St r.2) := by
  unfold m__law_names
  refine sat_ob (rng_n (by omega)) ?_
  refine sat_rb (sat_fmSn (I := fun i (z : List D × List D) acc => St z.2 ∧ ∃ ns rest : List (List Nat), acc = dn ns ∧ z.1 = dn rest ∧ ns.length = i ∧ (ns ++ rest).Perm spare15) (rngL many) (dn spare15, l) [] 0 ⟨h, [], spare15, rfl, rfl, rfl, List.Perm.refl _⟩ fun i z d acc hd ⟨hz, ns, rest, e1, e2, hl, hp⟩ => ?_) fun p ⟨hz, ns, rest, e1, _, hl, hp⟩ => ?_
  · obtain ⟨hi, rfl⟩ := rngL_get hd
    rw [Nat.zero_add] at hl ⊢
    have hlen := hp.length_eq
    rw [List.length_append] at hlen
    have h15 : spare15.length = 15 := rfl
    obtain ⟨z1, z2⟩ := z
    dsimp only at e2 hz ⊢
    subst e2
    rw [sx_len, dn_len]
    refine sat_ob rfl (sat_rb (take_ok hz (n := rest.length) (by omega) (by omega)) fun r ⟨⟨k, ek, hk⟩, hs⟩ => ?_)
    rw [ek]
    have hg : (dn rest)[k]? = some (.str rest[k]) := dn_get (List.getElem?_eq_getElem hk)
    refine sat_ob (popAt_l hg) (sat_ok ⟨hs, ns ++ [rest[k]], rest.eraseIdx k, ?_, ?_, by simp [hl], ?_⟩)
    · show acc ++ [D.str rest[k]] = _
      rw [e1]; simp [dn]
    · show (dn rest).eraseIdx k = _
      simp only [dn]
      rw [List.eraseIdx_eq_take_drop_succ, List.eraseIdx_eq_take_drop_succ]
      simp
    · refine List.Perm.trans ?_ hp
      rw [List.append_assoc]
      exact (perm_erase rest k rest[k] (List.getElem?_eq_getElem hk)).append_left ns
  · rw [rngL_len, Nat.zero_add] at hl
    have nd : (ns ++ rest).Nodup := hp.nodup_iff.mpr spare15_ok.1
    refine sat_ok ⟨ns, by simpa using e1, hl, (List.nodup_append.mp nd).1, fun w hw => spare15_ok.2 w (hp.mem_iff.mp (List.mem_append_left _ hw)), hz⟩
theorem and_or {k : Nat} (h : k < 2) : ∃ b : Bool, ixD (.lst [(.str q_and), (.str q_or)]) (.int (k : Nat)) = some (.str (if b then q_and else q_or)) := by
  match k, h with
  | 0, _ => exact ⟨true, ix_l (i := 0) rfl⟩
  | 1, _ => exact ⟨false, ix_l (i := 1) rfl⟩
theorem rrule_ok (ns : List (List Nat)) (n0 : 0 < ns.length) (n1 : ns.length ≤ 1000) : ∀ (fu deep : Nat) (l : List D), St l → 1 ≤ deep → deep ≤ fu → Sat (m__law_rule fu l (.lst (dn ns)) (.int (deep : Nat))) (fun r => ∃ R : Rl, r.1 = R.d ∧ R.dp ≤ deep ∧ R.over ns ∧ St r.2)
  | 0, deep, l, h, h1, h2 => by omega
  | fu + 1, deep, l, h, h1, h2 => by
    rw [m__law_rule]
    refine sat_rb (take_ok (n := 8) h (by decide) (by decide)) fun r1 ⟨⟨kind, ek, hk⟩, s1⟩ => ?_
    rw [ek]
    simp only [sx_lt, sx_ob]
    refine sat_rb (P := fun q => q.1 = false → 2 ≤ deep) (sat_if (fun _ => sat_ok fun h => by cases h) fun hd => sat_ok fun _ => by simp at hd; omega) fun q hq => sat_if (fun _ => ?_) fun hf => ?_
    · refine sat_ob (by rw [sx_len, dn_len]) (sat_rb (take_ok s1 n0 (by omega)) fun r ⟨⟨i, ei, hi⟩, s2⟩ => ?_)
      rw [ei]
      exact sat_ob (ix_l (dn_get (List.getElem?_eq_getElem hi))) (sat_ok ⟨.wire ns[i], rfl, h1, List.getElem_mem hi, s2⟩)
    · have hd2 := hq (by simpa using hf)
      refine sat_ob (subI1 h1) (sat_rb (rrule_ok ns n0 n1 fu (deep - 1) r1.2 s1 (by omega) (by omega)) fun r ⟨A, eA, dA, oA, sA⟩ => ?_)
      rw [eA]
      refine sat_if (fun _ => sat_ok ⟨.neg A, rfl, by simp only [Rl.dp]; omega, oA, sA⟩) fun _ => ?_
      obtain ⟨b, eb⟩ := and_or (k := kind % 2) (Nat.mod_lt _ (by decide))
      refine sat_ob (md_nat kind 2 (by decide)) (sat_ob eb ?_)
      obtain ⟨dq, edq, h1q, hdq⟩ : ∃ dq : Nat, (ob (subD (.int (deep : Nat)) (.int 1)) fun t => ob (gtD (.int (deep : Nat)) (.int 5)) fun t2 => ob (intD (.bl t2)) fun t3 => ob (ixD (.lst [t, .int 1]) t3) fun t4 => Res.ok t4) = .ok (.int (dq : Nat)) ∧ 1 ≤ dq ∧ dq ≤ deep - 1 := by
        rw [subI1 h1]
        simp only [sx_ob, sx_gt, sx_intB]
        by_cases h5 : (5 : Int) < (deep : Nat)
        · refine ⟨1, ?_, by decide, by omega⟩
          simp only [h5, decide_true, if_true, sx_l1, sx_ob]; rfl
        · refine ⟨deep - 1, ?_, by omega, by omega⟩
          simp only [h5, decide_false, Bool.false_eq_true, if_false, sx_l0, sx_ob]
      simp only [subI1 h1, sx_ob, sx_gt, sx_intB] at edq ⊢
      cases e4 : ixD (.lst [D.int ((deep - 1 : Nat) : Int), .int 1]) (.int (if decide ((5 : Int) < (deep : Nat)) = true then 1 else 0)) with
      | none => rw [e4] at edq; cases edq
      | some t4 =>
        rw [e4] at edq
        simp only [sx_ob] at edq ⊢
        cases edq
        refine sat_rb (rrule_ok ns n0 n1 fu dq r.2 sA h1q (by omega)) fun r2 ⟨B, eB, dB, oB, sB⟩ => ?_
        rw [eB]
        cases b with
        | true => exact sat_ok ⟨.conj A B, rfl, by simp only [Rl.dp]; omega, ⟨oA, oB⟩, sB⟩
        | false => exact sat_ok ⟨.disj A B, rfl, by simp only [Rl.dp]; omega, ⟨oA, oB⟩, sB⟩
theorem holder_ok (a b c : Rl) : m__law_holder a.d b.d c.d = .ok (heldR a b c).d := rfl
theorem rstanding_ok {l : List D} (h : St l) {N : Nt} (ok : N.Ok) : Sat (m__law_standing l N.d) (fun r => ∃ s : List Nat, r.1 = .str s ∧ s.length = N.ws.length ∧ Bits s ∧ St r.2) := by
  unfold m__law_standing
  have i4 := ok.i
  have g7 := ok.g1
  simp only [Nt.d, sx_asS, sx_ob, sx_t0, sx_t1, sx_len, sx_add, dn_len, List.length_map]
  rw [show ((N.ins.length : Int) + (N.gs.length : Int)) = ((N.ins.length + N.gs.length : Nat) : Int) by omega]
  refine sat_ob (rng_n (by omega)) ?_
  refine sat_rb (sat_fmSn (I := fun i z acc => St z ∧ ∃ s : List Nat, acc = s.map chD ∧ s.length = i ∧ Bits s) (rngL (N.ins.length + N.gs.length)) l [] 0 ⟨h, [], rfl, rfl, fun c hc => by cases hc⟩ fun i z x acc _ ⟨hz, s, e, hl, lo⟩ => ?_) fun p ⟨hz, s, e, hl, hb⟩ => ?_
  · refine sat_rb (take_ok (n := 2) hz (by decide) (by decide)) fun r ⟨⟨k, ek, hk⟩, dk⟩ => ?_
    rw [ek]
    obtain ⟨c, ec, hc⟩ := ix_01b hk
    refine sat_ob ec (sat_ok ⟨dk, s ++ [c], ?_, by simp [hl], fun x hx => ?_⟩)
    · show acc ++ [chD c] = _
      rw [e]; simp
    · rcases List.mem_append.mp hx with h | h
      · exact lo x h
      · rw [List.mem_singleton.mp h]; exact hc
  · rw [rngL_len, Nat.zero_add] at hl
    rw [List.nil_append] at e
    rw [e]
    exact sat_ob (join_ch (by omega)) (sat_ok ⟨s, rfl, by rw [hl, Nt.ws_len], hb, hz⟩)
end W

namespace W
open PySem VL
theorem ix_before {ns : List (List Nat)} {k : Nat} (h : k < ns.length) : ∃ w ∈ ns, ixD (.lst (dn ns)) (.int ((k : Int) - 1)) = some (.str w) := by
  cases k with
  | zero =>
    have hg := List.getElem?_eq_getElem (show ns.length - 1 < ns.length by omega)
    exact ⟨_, List.mem_of_getElem? hg, ix_neg1 (by rw [dn_len]; exact dn_get hg) (by rw [dn_len]; exact h)⟩
  | succ k =>
    have hg := List.getElem?_eq_getElem (show k < ns.length by omega)
    rw [show ((k + 1 : Nat) : Int) - 1 = ((k : Nat) : Int) by omega]
    exact ⟨_, List.mem_of_getElem? hg, ix_l (dn_get hg)⟩
theorem rknown_ok {ns : List (List Nat)} {ins k : Nat} (kind : Nat) (hk : ins + k < ns.length) : Sat (m__law_known_rule (.int (kind : Nat)) (.lst (dn ns)) (.int (k : Nat)) (.int (ins : Nat))) (fun r => ∃ R : Rl, r = R.d ∧ R.dp ≤ 5 ∧ R.over ns) := by
  unfold m__law_known_rule
  have hdr : ∀ w ∈ ns.drop ins, w ∈ ns := fun w hw => List.mem_of_mem_drop hw
  have hkl : k < (ns.drop ins).length := by rw [List.length_drop]; omega
  refine sat_ob rfl (sat_ob slL_fr' ?_)
  rw [dn_drop]
  have g0 := List.getElem?_eq_getElem hkl
  obtain ⟨wb, hb, eb⟩ := ix_before hkl
  have hm : k % ns.length < ns.length := Nat.mod_lt _ (by omega)
  have g1 := List.getElem?_eq_getElem hm
  have hm2 : (k + 1) % (ns.drop ins).length < (ns.drop ins).length := Nat.mod_lt _ (by omega)
  have g2 := List.getElem?_eq_getElem hm2
  refine sat_ob (ix_l (dn_get g0)) (sat_ob (sx_sub _ _) (sat_ob eb (sat_ob (by rw [sx_len, dn_len]) (sat_ob (md_nat _ _ (by omega)) (sat_ob (ix_l (dn_get g1)) (sat_ob (addI1 k) (sat_ob (by rw [sx_len, dn_len]) (sat_ob (md_nat _ _ (by omega)) (sat_ob (ix_l (dn_get g2)) ?_)))))))))
  have o0 : Rl.over ns (.wire (ns.drop ins)[k]) := hdr _ (List.getElem_mem _)
  have o1 : Rl.over ns (.wire wb) := hdr _ hb
  have o2 : Rl.over ns (.wire ns[k % ns.length]) := List.getElem_mem _
  have o3 : Rl.over ns (.wire (ns.drop ins)[(k + 1) % (ns.drop ins).length]) := hdr _ (List.getElem_mem _)
  simp only [sx_eqi, sx_ob]
  refine sat_if (fun _ => sat_ok ⟨.neg (.wire wb), rfl, by simp [Rl.dp], o1⟩) fun _ => sat_if (fun _ => sat_ok ⟨.neg (.disj (.wire wb) (.wire ns[k % ns.length])), rfl, by simp [Rl.dp], o1, o2⟩) fun _ => sat_if (fun _ => ?_) fun _ => ?_
  · exact sat_rbe (holder_ok (.wire ns[k % ns.length]) (.wire wb) (.wire (ns.drop ins)[k])) (sat_ok ⟨_, rfl, by simp [heldR, Rl.dp], ⟨o2, o1⟩, o0, o2, o1⟩)
  · exact sat_rbe (holder_ok (.wire wb) (.neg (.wire (ns.drop ins)[(k + 1) % (ns.drop ins).length])) (.wire (ns.drop ins)[k])) (sat_ok ⟨_, rfl, by simp [heldR, Rl.dp], ⟨o1, o3⟩, o0, o1, o3⟩)
theorem deep8_ok {k : Nat} (h : k < 8) : ∃ m, ixD (.lst [(.int 1), (.int 2), (.int 3), (.int 4), (.int 5), (.int 6), (.int 6), (.int 10)]) (.int (k : Nat)) = some (.int (m : Nat)) ∧ 1 ≤ m ∧ m ≤ 10 := by
  match k, h with
  | 0, _ => exact ⟨1, ix_l (i := 0) rfl, by decide, by decide⟩
  | 1, _ => exact ⟨2, ix_l (i := 1) rfl, by decide, by decide⟩
  | 2, _ => exact ⟨3, ix_l (i := 2) rfl, by decide, by decide⟩
  | 3, _ => exact ⟨4, ix_l (i := 3) rfl, by decide, by decide⟩
  | 4, _ => exact ⟨5, ix_l (i := 4) rfl, by decide, by decide⟩
  | 5, _ => exact ⟨6, ix_l (i := 5) rfl, by decide, by decide⟩
  | 6, _ => exact ⟨6, ix_l (i := 6) rfl, by decide, by decide⟩
  | 7, _ => exact ⟨10, ix_l (i := 7) rfl, by decide, by decide⟩
theorem rnet_ok {l : List D} (h : St l) : Sat (m__law_net l (.int 7)) (fun r => ∃ N : Nt, r.1 = N.d ∧ N.Ok ∧ St r.2) := by
  unfold m__law_net
  refine sat_rb (take_ok (n := 5) h (by decide) (by decide)) fun r1 ⟨⟨ins, ei, hi⟩, s1⟩ => ?_
  refine sat_rb (take_ok (n := 7) s1 (by decide) (by decide)) fun r3 ⟨⟨g, eg, hg⟩, s3⟩ => ?_
  rw [ei, eg]
  refine sat_ob (add1I g) (sat_ob (add_b ins (1 + g)) (sat_rb (rnames_ok s3 (by omega)) fun r4 ⟨ns, en, hl, nd, hw, s4⟩ => ?_))
  refine sat_rb (take_ok (n := 12) s4 (by decide) (by decide)) fun r6 ⟨⟨kind, ek, _⟩, s6⟩ => ?_
  refine sat_rb (take_ok (n := 8) s6 (by decide) (by decide)) fun r8 ⟨⟨dq, edq, hdq⟩, s8⟩ => ?_
  rw [edq, en, ek]
  obtain ⟨m, em, hm1, hm10⟩ := deep8_ok hdq
  refine sat_ob em ?_
  refine sat_rb (P := fun z => ∃ m' : Nat, z = .int (m' : Nat) ∧ 1 ≤ m' ∧ m' ≤ 10) ?_ fun z ⟨m', ez, h1', h10'⟩ => ?_
  · refine sat_ob (sx_gt _ _) (sat_if (fun _ => sat_ob (sx_min _ _) (sat_ok ?_)) fun _ => sat_ok ⟨m, rfl, hm1, hm10⟩)
    split
    · exact ⟨3, rfl, by decide, by decide⟩
    · exact ⟨m, rfl, hm1, hm10⟩
  subst ez
  refine sat_ob (rng_n (by omega)) ?_
  let I : Nat → (List D × List D) → Prop := fun k z => St z.1 ∧ ∃ gs : List (List Nat × Rl), z.2 = gs.map gD ∧ gs.length = k ∧ (gs.map (·.1)) = (ns.drop ins).take k ∧ ∀ g ∈ gs, g.2.dp ≤ 10 ∧ g.2.over ns
  refine sat_rb (sat_forN (I := I) (rngL (1 + g)) (r8.2, []) 0 ⟨s8, [], rfl, rfl, by simp, fun g hg => by cases hg⟩ fun k z x hx hz => ?_) fun z ⟨sz, gs, e, hgl, hn, hr⟩ => ?_
  · obtain ⟨z1, z2⟩ := z
    obtain ⟨sz, gs, e, hgl, hn, hr⟩ := hz
    dsimp only at e sz
    subst e
    obtain ⟨hk, rfl⟩ := rngL_get hx
    rw [Nat.zero_add] at hgl hn ⊢
    dsimp only
    refine sat_rb (rrule_ok ns (by omega) (by omega) 24 m' z1 sz h1' (by omega)) fun r17 ⟨R, eR, dR, oR, sR⟩ => ?_
    refine sat_rb (P := fun z => ∃ R : Rl, z.1 = R.d ∧ R.dp ≤ 10 ∧ R.over ns ∧ St z.2) ?_ fun z ⟨A, eA, dA, oA, sA⟩ => ?_
    · refine sat_ob (sx_lt _ _) (sat_rb (P := fun p => St p.2) (sat_if (fun _ => ?_) fun _ => sat_ok sR) fun p sp => sat_if (fun _ => ?_) fun _ => sat_ok ⟨R, eR, by omega, oR, sp⟩)
      · refine sat_rb (take_ok (n := 8) sR (by decide) (by decide)) fun r27 ⟨⟨q, eq, _⟩, s27⟩ => ?_
        rw [eq]
        exact sat_ob (sx_gt _ _) (sat_ok s27)
      · refine sat_rb (rknown_ok (ns := ns) (ins := ins) (k := k) kind (by omega)) fun r ⟨B, eB, dB, oB⟩ => sat_ok ⟨B, eB, by omega, oB, sp⟩
    rw [eA]
    have hget := List.getElem?_eq_getElem (show ins + k < ns.length by omega)
    refine sat_ob (add_b ins k) (sat_ob (ix_l (dn_get hget)) (sat_ob (ap_l (by simp; omega)) (sat_ok ⟨sA, gs ++ [(ns[ins + k], A)], by simp [gD], by simp [hgl], ?_, fun g hg => ?_⟩)))
    · rw [List.map_append, hn, List.take_add_one, List.getElem?_drop, hget]; rfl
    · rcases List.mem_append.mp hg with h | h
      · exact hr g h
      · rw [List.mem_singleton.mp h]; exact ⟨dA, oA⟩
  · rw [rngL_len, Nat.zero_add] at hgl hn
    refine sat_ob rfl (sat_ob slL_to' (sat_ok ⟨⟨ns.take ins, gs⟩, ?_, ?_, sz⟩))
    · simp only [Nt.d]; rw [e, dn_take]
    · have hws : (Nt.mk (ns.take ins) gs).ws = ns := by
        show ns.take ins ++ gs.map (·.1) = ns
        have e2 : (ns.drop ins).take (1 + g) = ns.drop ins := List.take_of_length_le (by rw [List.length_drop]; omega)
        rw [hn, e2, List.take_append_drop]
      refine ⟨by simp; omega, by show 1 ≤ gs.length; omega, by show gs.length ≤ 7; omega, by rw [hws]; exact nd, by rw [hws]; exact hw, by rw [hws]; exact hr⟩
end W

namespace W
open PySem VL
/-! the ways on -/
def Nt.stp (N : Nt) (s : List Nat) : List (List Nat × List Nat) := (N.ask s).map fun w => (w, flipS s (N.ws.idxOf w))
theorem ask_gn {N : Nt} {s w : List Nat} (h : w ∈ N.ask s) : w ∈ N.gn := by
  unfold Nt.ask at h
  obtain ⟨g, hg, rfl⟩ := List.mem_map.mp h
  exact List.mem_map.mpr ⟨g, (List.mem_filter.mp hg).1, rfl⟩
theorem ask_ws {N : Nt} {s w : List Nat} (h : w ∈ N.ask s) : w ∈ N.ws := List.mem_append_right _ (ask_gn h)
theorem idx_lt {ws : List (List Nat)} {w : List Nat} (h : w ∈ ws) : ws.idxOf w < ws.length := List.idxOf_lt_length_of_mem h
theorem Nt.ws_le {N : Nt} (ok : N.Ok) : N.ws.length ≤ 11 := by
  rw [Nt.ws_len]; have := ok.i; have := ok.g1; omega
end W

namespace W
open PySem VL
/-! orders -/
def Nt.sw (N : Nt) (s w : List Nat) : List Nat := flipS s (N.ws.idxOf w)
def Nt.ord (N : Nt) : List Nat → List (List Nat) → Option (List Nat)
  | s, [] => some s
  | s, w :: r => if w ∈ N.ask s then N.ord (N.sw s w) r else none
def Nt.Is (N : Nt) (s : List Nat) : Prop := s.length = N.ws.length ∧ Bits s
theorem sw_is {N : Nt} {s w : List Nat} (h : N.Is s) (hw : w ∈ N.ws) : N.Is (N.sw s w) := by
  have := idx_lt hw
  exact ⟨by unfold Nt.sw; rw [flipS_len (by rw [h.1]; exact this)]; exact h.1, flipS_bits h.2⟩
theorem ord_app {N : Nt} : ∀ (o p : List (List Nat)) (s : List Nat), N.ord s (o ++ p) = (N.ord s o).bind fun t => N.ord t p
  | [], p, s => rfl
  | w :: r, p, s => by
    show (if w ∈ N.ask s then N.ord (N.sw s w) (r ++ p) else none) = Option.bind (if w ∈ N.ask s then N.ord (N.sw s w) r else none) _
    by_cases h : w ∈ N.ask s
    · rw [if_pos h, if_pos h, ord_app r p]
    · rw [if_neg h, if_neg h]; rfl
theorem ord_is {N : Nt} : ∀ {o : List (List Nat)} {s t : List Nat}, N.Is s → N.ord s o = some t → N.Is t
  | [], s, t, h, e => by cases e; exact h
  | w :: r, s, t, h, e => by
    have e' : (if w ∈ N.ask s then N.ord (N.sw s w) r else none) = some t := e
    by_cases hw : w ∈ N.ask s
    · rw [if_pos hw] at e'; exact ord_is (sw_is h (ask_ws hw)) e'
    · rw [if_neg hw] at e'; cases e'
theorem stp_eq (N : Nt) (s : List Nat) : N.stp s = (N.ask s).map fun w => (w, N.sw s w) := rfl
/-- what was gone along -/
structure Alo (N : Nt) (s : List Nat) (o al : List (List Nat)) : Prop where
  len : al.length = o.length + 1
  z : al[0]? = some s
  st : ∀ k w, o[k]? = some w → ∃ a, al[k]? = some a ∧ w ∈ N.ask a ∧ al[k + 1]? = some (N.sw a w)
theorem Alo.to {N : Nt} {s : List Nat} {o al : List (List Nat)} (h : Alo N s o al) : ∀ k a, al[k]? = some a → N.ord s (o.take k) = some a
  | 0, a, e => by rw [h.z] at e; cases e; rfl
  | k + 1, a, e => by
    have hk : k < o.length := by have := (List.getElem?_eq_some_iff.mp e).1; rw [h.len] at this; omega
    obtain ⟨b, e1, e2, e3⟩ := h.st k o[k] (List.getElem?_eq_getElem hk)
    rw [e3] at e; cases e
    rw [List.take_add_one, List.getElem?_eq_getElem hk, Option.toList_some, ord_app, h.to k b e1]
    show (if o[k] ∈ N.ask b then _ else _) = _
    rw [if_pos e2]; rfl
theorem Alo.part {N : Nt} {s : List Nat} {o al : List (List Nat)} (h : Alo N s o al) {i j : Nat} {a b : List Nat} (hij : i ≤ j) (ea : al[i]? = some a) (eb : al[j]? = some b) : N.ord a ((o.drop i).take (j - i)) = some b := by
  have h1 := h.to i a ea
  have h2 := h.to j b eb
  have : o.take j = o.take i ++ (o.drop i).take (j - i) := by
    rw [← List.take_append_drop i (o.take j), List.take_take, Nat.min_eq_left hij, List.drop_take]
  rw [this, ord_app, h1] at h2
  exact h2
theorem Alo.is {N : Nt} {s : List Nat} {o al : List (List Nat)} (h : Alo N s o al) (hs : N.Is s) {a : List Nat} (ha : a ∈ al) : N.Is a := by
  obtain ⟨k, e⟩ := List.getElem?_of_mem ha
  exact ord_is hs (h.to k a e)
end W

namespace W
open PySem VL
end W

namespace W
open PySem VL
/-! dicts by texts -/
section
variable {β : Type}
def dict (e : β → D) (f : List (List Nat × β)) : List (D × D) := f.map fun h => (D.str h.1, e h.2)
def ky (f : List (List Nat × β)) : List (List Nat) := f.map (·.1)
def lk (f : List (List Nat × β)) (w : List Nat) : Option β := (f.find? fun h => h.1 == w).map (·.2)
variable {e : β → D}
theorem ky_len (f : List (List Nat × β)) : (ky f).length = f.length := by simp [ky]
theorem ky_app (f g : List (List Nat × β)) : ky (f ++ g) = ky f ++ ky g := by simp [ky]
end
end W

namespace W
open PySem VL
/-! going along a list that grows: each standing found once, with the first shortest order -/
abbrev Fd := List (List Nat × List (List Nat))
section
variable (nx : List Nat → List (List Nat × List Nat))
def bAdd (o : List (List Nat)) (f : Fd) (p : List Nat × List Nat) : Fd := if p.2 ∈ ky f then f else f ++ [(p.2, o ++ [p.1])]
def bTurn (f : Fd) (i : Nat) : Fd := match f[i]? with
  | some h => (nx h.1).foldl (bAdd h.2) f
  | none => f
def bGo : Nat → Fd → Nat → Fd
  | 0, f, _ => f
  | n + 1, f, i => if i < f.length then bGo n (bTurn nx f i) (i + 1) else f
def bfs (s : List Nat) : Fd := bGo nx 5000 [(s, [])] 0
end
/-! texts of signs, all of a length -/
def allBits : Nat → List (List Nat)
  | 0 => [[]]
  | n + 1 => (allBits n).map (48 :: ·) ++ (allBits n).map (49 :: ·)
theorem allBits_len : ∀ n, (allBits n).length = 2 ^ n
  | 0 => rfl
  | n + 1 => by simp [allBits, allBits_len n, Nat.pow_succ]; omega
theorem allBits_mem : ∀ {s : List Nat}, Bits s → s ∈ allBits s.length
  | [], _ => List.mem_singleton.mpr rfl
  | c :: r, h => by
    have ih := allBits_mem (s := r) fun x hx => h x (List.mem_cons_of_mem _ hx)
    show c :: r ∈ (allBits r.length).map (48 :: ·) ++ (allBits r.length).map (49 :: ·)
    rw [List.mem_append]
    rcases h c List.mem_cons_self with e | e
    · exact .inl (List.mem_map.mpr ⟨r, ih, by rw [e]⟩)
    · exact .inr (List.mem_map.mpr ⟨r, ih, by rw [e]⟩)
structure Gd (L : Nat) (f : Fd) : Prop where
  nd : (ky f).Nodup
  k : ∀ s ∈ ky f, s.length = L ∧ Bits s
  o : ∀ (j : Nat) (h : List Nat × List (List Nat)), f[j]? = some h → h.2.length ≤ j
theorem bits_pow {L : Nat} (h : L ≤ 11) : 2 ^ L ≤ 2048 := Nat.pow_le_pow_right (by decide) h
theorem Gd.len {L : Nat} {f : Fd} (g : Gd L f) (h : L ≤ 11) : f.length ≤ 2048 := by
  have := pigeon (b := allBits L) g.nd fun s hs => by
    obtain ⟨h1, h2⟩ := g.k s hs
    have := allBits_mem h2
    rwa [h1] at this
  rw [allBits_len, ky_len] at this
  have := bits_pow h
  omega
theorem bTurn_eq (nx : List Nat → List (List Nat × List Nat)) {f : Fd} {i : Nat} {h : List Nat × List (List Nat)} (hi : f[i]? = some h) : bTurn nx f i = (nx h.1).foldl (bAdd h.2) f := by unfold bTurn; rw [hi]
end W

namespace W
open PySem VL
/-! the orders from a standing -/
def Nt.bf (N : Nt) (s : List Nat) : Fd := bfs N.stp s
/-- all standings, sorted -/
def Nt.all (N : Nt) (s : List Nat) : List (List Nat) := (ky (N.bf s)).mergeSort leN
end W

namespace W
open PySem VL
/-! what the walk along a growing list finds -/
structure Bi (N : Nt) (s : List Nat) (f : Fd) (i : Nat) : Prop where
  z : f[0]? = some (s, [])
  nd : (ky f).Nodup
  up : ∀ (j k : Nat) (a b : List Nat × List (List Nat)), j ≤ k → f[j]? = some a → f[k]? = some b → a.2.length ≤ b.2.length
  so : ∀ h ∈ f, N.ord s h.2 = some h.1
  one : ∀ (a b : List Nat × List (List Nat)), f[i]? = some a → b ∈ f → b.2.length ≤ a.2.length + 1
  cl : ∀ (j : Nat) (a : List Nat × List (List Nat)), j < i → f[j]? = some a → ∀ w ∈ N.ask a.1, ∃ b ∈ f, b.1 = N.sw a.1 w ∧ b.2.length ≤ a.2.length + 1
theorem Bi.start (N : Nt) (s : List Nat) : Bi N s [(s, [])] 0 := by
  refine ⟨rfl, by simp [ky], fun j k a b hjk ha hb => ?_, fun h hh => ?_, fun a b ha hb => ?_, fun j a hj => absurd hj (Nat.not_lt_zero _)⟩
  · have h1 := (List.getElem?_eq_some_iff.mp ha).1
    have h2 := (List.getElem?_eq_some_iff.mp hb).1
    simp at h1 h2; subst h1 h2
    cases ha; cases hb; exact Nat.le_refl _
  · rw [List.mem_singleton.mp hh]; rfl
  · rw [List.mem_singleton.mp hb]; simp
/-- amid a turn -/
structure Bm (N : Nt) (s : List Nat) (f : Fd) (i : Nat) (a : List Nat × List (List Nat)) (ws : List (List Nat)) : Prop where
  z : f[0]? = some (s, [])
  nd : (ky f).Nodup
  up : ∀ (j k : Nat) (a b : List Nat × List (List Nat)), j ≤ k → f[j]? = some a → f[k]? = some b → a.2.length ≤ b.2.length
  so : ∀ h ∈ f, N.ord s h.2 = some h.1
  at_ : f[i]? = some a
  one : ∀ b ∈ f, b.2.length ≤ a.2.length + 1
  cl : ∀ (j : Nat) (a : List Nat × List (List Nat)), j < i → f[j]? = some a → ∀ w ∈ N.ask a.1, ∃ b ∈ f, b.1 = N.sw a.1 w ∧ b.2.length ≤ a.2.length + 1
  cw : ∀ w ∈ ws, ∃ b ∈ f, b.1 = N.sw a.1 w ∧ b.2.length ≤ a.2.length + 1
theorem Bm.add {N : Nt} {s : List Nat} {f : Fd} {i : Nat} {a : List Nat × List (List Nat)} {ws : List (List Nat)} (h : Bm N s f i a ws) {w : List Nat} (hw : w ∈ N.ask a.1) : Bm N s (bAdd a.2 f (w, N.sw a.1 w)) i a (ws ++ [w]) := by
  unfold bAdd
  split
  · rename_i hin
    refine { h with cw := fun v hv => ?_ }
    rcases List.mem_append.mp hv with h1 | h1
    · exact h.cw v h1
    · rw [List.mem_singleton.mp h1]
      obtain ⟨b, hb, e⟩ := List.mem_map.mp hin
      exact ⟨b, hb, e, h.one b hb⟩
  · rename_i hn
    have hil := (List.getElem?_eq_some_iff.mp h.at_).1
    have old : ∀ {j : Nat} {b : List Nat × List (List Nat)}, (f ++ [(N.sw a.1 w, a.2 ++ [w])])[j]? = some b → (j < f.length ∧ f[j]? = some b) ∨ (j = f.length ∧ b = (N.sw a.1 w, a.2 ++ [w])) := fun {j b} e => by
      by_cases hj : j < f.length
      · rw [List.getElem?_append_left hj] at e; exact .inl ⟨hj, e⟩
      · have := (List.getElem?_eq_some_iff.mp e).1
        simp at this
        have hj2 : j = f.length := by omega
        subst hj2
        rw [List.getElem?_append_right (Nat.le_refl _), Nat.sub_self] at e
        cases e; exact .inr ⟨rfl, rfl⟩
    refine ⟨?_, ?_, fun j k x y hjk hx hy => ?_, fun x hx => ?_, ?_, fun b hb => ?_, fun j x hj hx v hv => ?_, fun v hv => ?_⟩
    · rw [List.getElem?_append_left (by omega)]; exact h.z
    · rw [ky_app, List.nodup_append]
      exact ⟨h.nd, by simp [ky], fun x hx y hy => by simp [ky] at hy; subst hy; intro e; subst e; exact hn hx⟩
    · rcases old hx with ⟨h1, e1⟩ | ⟨h1, e1⟩ <;> rcases old hy with ⟨h2, e2⟩ | ⟨h2, e2⟩
      · exact h.up j k x y hjk e1 e2
      · subst e2
        have := h.one x (List.mem_of_getElem? e1)
        simp; omega
      · omega
      · subst e1 e2; exact Nat.le_refl _
    · rcases List.mem_append.mp hx with h1 | h1
      · exact h.so x h1
      · rw [List.mem_singleton.mp h1, ord_app, h.so a (List.mem_of_getElem? h.at_)]
        show (if w ∈ N.ask a.1 then _ else _) = _
        rw [if_pos hw]; rfl
    · rw [List.getElem?_append_left hil]; exact h.at_
    · rcases List.mem_append.mp hb with h1 | h1
      · exact h.one b h1
      · rw [List.mem_singleton.mp h1]; simp
    · rcases old hx with ⟨h1, e1⟩ | ⟨h1, _⟩
      · obtain ⟨b, hb, e⟩ := h.cl j x hj e1 v hv
        exact ⟨b, List.mem_append_left _ hb, e⟩
      · omega
    · rcases List.mem_append.mp hv with h1 | h1
      · obtain ⟨b, hb, e⟩ := h.cw v h1
        exact ⟨b, List.mem_append_left _ hb, e⟩
      · rw [List.mem_singleton.mp h1]
        exact ⟨_, List.mem_append_right _ (List.mem_singleton.mpr rfl), rfl, by simp⟩
theorem Bm.all {N : Nt} {s : List Nat} {i : Nat} {a : List Nat × List (List Nat)} : ∀ (vs ws : List (List Nat)) (f : Fd), Bm N s f i a ws → (∀ w ∈ vs, w ∈ N.ask a.1) → Bm N s ((vs.map fun w => (w, N.sw a.1 w)).foldl (bAdd a.2) f) i a (ws ++ vs)
  | [], ws, f, h, _ => by rw [List.append_nil]; exact h
  | v :: vs, ws, f, h, hv => by
    have := Bm.all vs (ws ++ [v]) _ (h.add (hv v List.mem_cons_self)) fun w hw => hv w (List.mem_cons_of_mem _ hw)
    rw [List.append_assoc] at this
    exact this
theorem Bi.turn {N : Nt} {s : List Nat} {f : Fd} {i : Nat} (h : Bi N s f i) {a : List Nat × List (List Nat)} (ha : f[i]? = some a) : Bi N s (bTurn N.stp f i) (i + 1) := by
  rw [bTurn_eq N.stp ha, stp_eq]
  have m0 : Bm N s f i a [] := ⟨h.z, h.nd, h.up, h.so, ha, fun b hb => h.one a b ha hb, h.cl, fun w hw => by cases hw⟩
  have m := Bm.all (N.ask a.1) [] f m0 fun w hw => hw
  rw [List.nil_append] at m
  generalize ((N.ask a.1).map fun w => (w, N.sw a.1 w)).foldl (bAdd a.2) f = g at m
  refine ⟨m.z, m.nd, m.up, m.so, fun x b hx hb => ?_, fun j x hj hx => ?_⟩
  · have h1 := m.one b hb
    have h2 := m.up i (i + 1) a x (Nat.le_succ i) m.at_ hx
    omega
  · by_cases hji : j < i
    · exact m.cl j x hji hx
    · have : j = i := by omega
      subst this
      rw [m.at_] at hx; cases hx
      exact m.cw
/-- found within as many steps, by a place ahead -/
theorem Bi.near {N : Nt} {s : List Nat} {f : Fd} {i : Nat} (h : Bi N s f i) (d : Nat) (hd : ∀ (k : Nat) (b : List Nat × List (List Nat)), f[k]? = some b → b.2.length < d → k < i) : ∀ (n : Nat) (p : List (List Nat)) (t : List Nat), p.length = n → n < d → N.ord s p = some t → ∃ b ∈ f, b.1 = t ∧ b.2.length ≤ n
  | 0, p, t, hp, hn, e => by
    cases p with
    | nil => cases e; exact ⟨_, List.mem_of_getElem? h.z, rfl, Nat.le_refl _⟩
    | cons _ _ => simp at hp
  | n + 1, p, t, hp, hn, e => by
    obtain ⟨q, w, rfl⟩ : ∃ q w, p = q ++ [w] := ⟨p.dropLast, p.getLast (by intro z; subst z; simp at hp), (List.dropLast_concat_getLast _).symm⟩
    simp at hp
    rw [ord_app] at e
    cases eq : N.ord s q with
    | none => rw [eq] at e; cases e
    | some u =>
      rw [eq] at e
      have e' : (if w ∈ N.ask u then some (N.sw u w) else none) = some t := e
      by_cases hw : w ∈ N.ask u
      · rw [if_pos hw] at e'; cases e'
        obtain ⟨a, ha, ea, la⟩ := Bi.near h d hd n q u hp (by omega) eq
        obtain ⟨j, hj⟩ := List.getElem?_of_mem ha
        have hji := hd j a hj (by omega)
        subst ea
        obtain ⟨b, hb, eb, lb⟩ := h.cl j a hji hj w hw
        exact ⟨b, hb, eb, by omega⟩
      · rw [if_neg hw] at e'; cases e'
/-- gone along to the end -/
structure Bf (N : Nt) (s : List Nat) (f : Fd) : Prop where
  i : Bi N s f f.length
theorem Bf.to {N : Nt} {s : List Nat} {f : Fd} (h : Bf N s f) {p : List (List Nat)} {t : List Nat} (e : N.ord s p = some t) : ∃ b ∈ f, b.1 = t ∧ b.2.length ≤ p.length :=
  h.i.near (p.length + 1) (fun k b hk _ => (List.getElem?_eq_some_iff.mp hk).1) p.length p t rfl (by omega) e
theorem Bf.so {N : Nt} {s : List Nat} {f : Fd} (h : Bf N s f) {b : List Nat × List (List Nat)} (hb : b ∈ f) : N.ord s b.2 = some b.1 := h.i.so b hb
theorem Bi.lt {N : Nt} (ok : N.Ok) {s : List Nat} (hs : N.Is s) {f : Fd} {i : Nat} (h : Bi N s f i) : f.length ≤ 2048 := by
  have := pigeon (b := allBits N.ws.length) h.nd fun x hx => by
    obtain ⟨b, hb, rfl⟩ := List.mem_map.mp hx
    obtain ⟨h1, h2⟩ := ord_is hs (h.so b hb)
    have := allBits_mem h2
    rwa [h1] at this
  rw [allBits_len, ky_len] at this
  have := bits_pow (Nt.ws_le ok)
  omega
end W

namespace W
open PySem VL
/-! all standings -/
end W

namespace W
open PySem VL
def BadN (N : Nt) (d : D) : Prop := m_need_standing N.d d = .err ⟨1, none⟩
theorem bit_q2 {c : Nat} : (c ∈ q_01) ↔ (c = 48 ∨ c = 49) := by simp
theorem badn_other {N : Nt} {d : D} (h : isK d .str = some false) : BadN N d := by
  unfold BadN m_need_standing
  simp only [h, sx_ob, sx_asB, Bool.not_false, if_true, sx_rb]
theorem badn_str {N : Nt} (ok : N.Ok) {t : List Nat} (hz : t.length ≤ 1000) (h : t.length ≠ N.ws.length ∨ ∃ c ∈ t, ¬ (c = 48 ∨ c = 49)) : BadN N (.str t) := by
  unfold BadN m_need_standing
  have i4 := ok.i
  have g7 := ok.g1
  have wl := N.ws_len
  simp only [Nt.d, sx_isKs, sx_ob, sx_asB, Bool.not_true, Bool.false_eq_true, if_false, sx_t0, sx_t1, sx_len, sx_add, len_s (show t.length ≤ 16777216 by omega), sx_nei, dn_len, List.length_map, sx_rb]
  by_cases hl : t.length = N.ws.length
  · obtain ⟨c, hc, hb⟩ := h.resolve_left fun z => z hl
    rw [if_neg (by simp; omega), strLD_eq hz]
    simp only [sx_ob]
    rw [fmR_xs (g := fun c => if (!decide (c ∈ q_01)) = true then some (chD c) else none) t fun c _ => by
      have : notInD (chD c) (.str q_01) = some (!decide (c ∈ q_01)) := rfl
      rw [this, sx_ob]
      split <;> rfl]
    rw [filterMap_if]
    simp only [sx_rb]
    have pl : D.plains ((t.filter fun c => !decide (c ∈ q_01)).map chD) = true := plains_iff.mpr fun d hd => by
      obtain ⟨c, _, rfl⟩ := List.mem_map.mp hd
      rfl
    have e : neD (.lst ((t.filter fun c => !decide (c ∈ q_01)).map chD)) (.lst []) = some true := by
      unfold neD
      rw [eq_nil pl]
      have : ((t.filter fun c => !decide (c ∈ q_01)).map chD).isEmpty = false := by
        have hm : c ∈ t.filter fun c => !decide (c ∈ q_01) := List.mem_filter.mpr ⟨hc, by
          have : ¬ c ∈ q_01 := fun z => hb (bit_q2.mp z)
          simp only [this, decide_false, Bool.not_false]⟩
        cases e : t.filter fun c => !decide (c ∈ q_01) with
        | nil => rw [e] at hm; cases hm
        | cons a r => rfl
      rw [this]; rfl
    rw [e]
    rfl
  · rw [if_pos (by simp; omega)]
end W

namespace W
open PySem VL
def sgn15 : List Nat := qx_32202d614f7e2e3e78
theorem sgn15_bad : ∀ c ∈ sgn15, ¬ (c = 48 ∨ c = 49) := by decide
theorem neg1_15 {s : List Nat} (h : 1 ≤ s.length) (hl : s.length ≤ 1000) : slS none (some (-1)) (.str s) = some (.str (s.take (s.length - 1))) := by
  show (if _ then some (D.str (cut s none (some (-1)))) else none) = _
  rw [if_pos (by omega)]
  congr 2
  have e : HT.sIx s.length s.length (some (-1)) = s.length - 1 := by
    simp [HT.sIx]; omega
  have e0 : HT.sIx s.length 0 none = 0 := rfl
  unfold cut
  rw [e, e0]; rfl
def th15 (s : List Nat) (a c : Nat) : List D := [.str (s ++ q_0), .str (s ++ q_1), .str (s.take (s.length - 1)), .str (s.take a ++ [c] ++ s.drop (a + 1)), .str qx_, .str [c], .non, .int 0, .int 1, .bl true, .lst [.str q_0], .tup [.str q_0, .str q_1], .dct false [], .int (10 ^ 29), .lst (strL s)]
theorem none_ok {N : Nt} (ok : N.Ok) {s : List Nat} (hl : s.length = N.ws.length) {l : List D} (hs : St l) : Sat (m__law_no_standing l (.str s)) (fun r => BadN N r.1 ∧ St r.2) := by
  have i4 := ok.i
  have g7 := ok.g1
  have g0 := ok.g0
  have wl := N.ws_len
  have hz : s.length ≤ 1000 := by omega
  unfold m__law_no_standing
  refine sat_ob (len_s (by omega)) (sat_rb (take_ok hs (n := s.length) (by omega) (by omega)) fun r1 ⟨⟨a, ea, ha⟩, s1⟩ => ?_)
  rw [ea]
  refine sat_rb (take_ok s1 (n := 9) (by decide) (by decide)) fun r4 ⟨⟨b, eb, hb⟩, s4⟩ => ?_
  rw [eb]
  have hb' : b < sgn15.length := hb
  have e6 := List.getElem?_eq_getElem hb'
  have hcb := sgn15_bad _ (List.getElem_mem hb')
  generalize sgn15[b] = c at e6 hcb
  have e18 : listSD (.str s) = some (strL s) := show (if _ then _ else none) = _ from if_pos hz
  refine sat_ob (ix_sn (s := sgn15) e6 (by decide)) (sat_ob (addS (by simp; omega)) (sat_ob (addS (by simp; omega)) (sat_ob rfl (sat_ob rfl (sat_ob (neg1_15 (by omega) hz) (sat_ob rfl (sat_ob (slS_to (by omega) hz) (sat_ob (addS (by simp; omega)) (sat_ob (addI1 a) (sat_ob rfl (sat_ob (slS_from (by omega) hz) (sat_ob (addS (by simp; omega)) (sat_ob (c := .int (10 ^ 29)) rfl (sat_ob e18 ?_))))))))))))))
  refine sat_ob (c := th15 s a c) rfl (sat_rb (take_ok s4 (n := 15) (by decide) (by decide)) fun r21 ⟨⟨k, ek, hk⟩, s21⟩ => ?_)
  rw [ek]
  refine sat_ob (ix_l (List.getElem?_eq_getElem (l := th15 s a c) hk)) (sat_ok ⟨?_, s21⟩)
  have hm := List.getElem_mem (l := th15 s a c) hk
  revert hm
  generalize (th15 s a c)[k] = y
  intro hm
  simp only [th15, List.mem_cons, List.not_mem_nil, or_false] at hm
  rcases hm with rfl | rfl | rfl | rfl | rfl | rfl | rfl | rfl | rfl | rfl | rfl | rfl | rfl | rfl | rfl
  · exact badn_str ok (by simp; omega) (.inl (by simp; omega))
  · exact badn_str ok (by simp; omega) (.inl (by simp; omega))
  · exact badn_str ok (by rw [List.length_take]; omega) (.inl (by rw [List.length_take]; omega))
  · exact badn_str ok (by simp; omega) (.inr ⟨c, by simp, hcb⟩)
  · exact badn_str ok (by decide) (.inl (by simp; omega))
  · exact badn_str ok (by simp) (.inr ⟨c, by simp, hcb⟩)
  all_goals exact badn_other rfl
section
variable {N : Nt} {d : D}
theorem bad_asked15 (h : BadN N d) : m_asked_gates N.d d = .err ⟨1, none⟩ := by unfold m_asked_gates; rw [show m_need_standing N.d d = _ from h]; rfl
theorem bad_race15 (h : BadN N d) : m_first_race N.d d = .err ⟨1, none⟩ := by unfold m_first_race; rw [bad_asked15 h]; rfl
theorem bad_paper15 (h : BadN N d) : m_calm_paper N.d d = .err ⟨1, none⟩ := by unfold m_calm_paper; rw [bad_race15 h]; rfl
theorem bad_shows15 (h : BadN N d) {p : D} : m_calm_shows N.d d p = .err ⟨1, none⟩ := by unfold m_calm_shows; rw [bad_asked15 h]; rfl
theorem refused15 (h : BadN N d) {p : D} {k : Nat} (hk : k < 3) : m__law_refused (.int (k : Nat)) N.d d p = .ok (.bl true) := by
  unfold m__law_refused
  rw [bad_race15 h, bad_paper15 h, bad_shows15 h]
  match k, hk with
  | 0, _ => rfl
  | 1, _ => rfl
  | 2, _ => rfl
end
theorem law_true (ns : List Int) (hn : ns.length ≤ 63) : m_law (.lst (ns.map .int)) = .ok (.bl true) := by
  refine of_sat ?_
  unfold m_law
  refine sat_ob (c := D.int (ns.length : Nat)) (by rw [sx_len, List.length_map]) (sat_ob (c := D.int ((max ns.length 3 : Nat) : Int)) (by rw [sx_max]; congr 2; split <;> omega) (sat_ob (c := D.int ((min (max ns.length 3) 12 : Nat) : Int)) (by rw [sx_min]; congr 2; split <;> omega) (sat_ob (rng_n (by omega)) ?_)))
  refine sat_rb (sat_forL0 (I := fun _ => True) trivial fun z d hd _ => ?_) fun o ⟨_, eo, _⟩ => by
    subst eo; exact sat_ok rfl
  obtain ⟨i, hi⟩ := List.getElem?_of_mem hd
  obtain ⟨hi2, rfl⟩ := rngL_get hi
  refine sat_rb (cell_ok ns hn i (by omega)) fun r8 ⟨c, ec⟩ => ?_
  rw [ec]
  refine sat_rb (store_ok c) fun r7 s7 => sat_rb (rnet_ok s7) fun r9 ⟨N, e9, ok, s9⟩ => ?_
  rw [e9]
  refine sat_rb (rstanding_ok s9 ok) fun r10 ⟨s, e10, hl, hb, s10⟩ => ?_
  rw [e10]
  refine sat_rb (rstanding_ok s10 ok) fun r12 ⟨t, e12, tl, tb, s12⟩ => ?_
  rw [e12]
  refine sat_ob (sort_dn (l := [s, t]) (by simp)) (sat_rb (none_ok ok hl s12) fun r13 ⟨hbad, s13⟩ => ?_)
  refine sat_ob (c := rngL 3) (rng_n (n := 3) (by decide)) ?_
  refine sat_rb (sat_forL0 (I := fun _ => True) trivial fun z d hd _ => ?_) fun o ⟨_, eo, _⟩ => by
    subst eo; exact sat_ok ⟨(), rfl, trivial⟩
  obtain ⟨j, hj⟩ := List.getElem?_of_mem hd
  obtain ⟨hj2, rfl⟩ := rngL_get hj
  exact sat_rbe (refused15 hbad hj2) (sat_ob (sx_asB _) (sat_if (fun z => by cases z) fun _ => sat_ok ⟨(), rfl, trivial⟩))
end W

open PySem PySem.W PyProof.Rows
set_option maxHeartbeats 0 in
theorem PySem.Challenge.cw_anydelay_k15_standings_that_are_none_holds : PySem.Challenge.rw_anydelay_k15_standings_that_are_none.Holds := by
  w_on; o_law; k_head; (case hw => w_witness2)
  k_fill
  refine VL.walk_ofE (l := PySem.Challenge.rw_anydelay_k15_standings_that_are_none) (k := 32) (mir := fun a => W.m_law a) rfl rfl ⟨rfl, by decide, by decide⟩ (fun w h Y => PySem.W.kIn_of Y) ?F (fun w => by rfl) W.law_true
  case F =>
    intro w mg fa h KX G hmg
    refine' W.all_mk KX G hmg ?a0 ?l0 ?c0 ?k0 ?a1 ?l1 ?c1 ?k1 ?a2 ?l2 ?c2 ?k2 ?a3 ?l3 ?c3 ?k3 ?a4 ?l4 ?c4 ?k4 ?a5 ?l5 ?c5 ?k5 ?a6 ?l6 ?c6 ?k6 ?a7 ?l7 ?c7 ?k7 ?a8 ?l8 ?c8 ?k8 ?a9 ?l9 ?c9 ?k9 ?a10 ?l10 ?c10 ?k10 ?a11 ?l11 ?c11 ?k11 ?a12 ?l12 ?c12 ?k12 ?a13 ?l13 ?c13 ?k13 ?a14 ?l14 ?c14 ?k14 ?a15 ?l15 ?c15 ?k15 ?a16 ?l16 ?c16 ?k16 ?a17 ?l17 ?c17 ?k17 ?a18 ?l18 ?c18 ?k18 ?a19 ?l19 ?c19 ?k19 ?a20 ?l20 ?c20 ?k20 ?a21 ?l21 ?c21 ?k21 ?a22 ?l22 ?c22 ?k22 ?a23 ?l23 ?c23 ?k23 ?a24 ?l24 ?c24 ?k24 ?a25 ?l25 ?c25 ?k25 ?a26 ?l26 ?c26 ?k26 ?a27 ?l27 ?c27 ?k27 ?a28 ?l28 ?c28 ?k28 ?z_ValueError ?z_dict ?z_int ?z_isinstance ?z_len ?z_list ?z_max ?z_min ?z_range ?z_sorted ?z_str ?z_zip ?xg0 ?xg1 ?xg2 ?xg3 ?xg4 ?xg5 ?xg6 ?xall ?xk1 ?xe1 ?xt1 ?xL ?rv ?sa ?ex6 ?ty6 ?kC6 ?ai ?ti ?li ?ci ?ki
    (case a0 => k_is)
    (case l0 => k_is)
    (case c0 => k_is)
    (case k0 => k_is)
    (case a1 => k_is)
    (case l1 => k_is)
    (case c1 => k_is)
    (case k1 => k_is)
    (case a2 => k_is)
    (case l2 => k_is)
    (case c2 => k_is)
    (case k2 => k_is)
    (case a3 => k_is)
    (case l3 => k_is)
    (case c3 => k_is)
    (case k3 => k_is)
    (case a4 => k_is)
    (case l4 => k_is)
    (case c4 => k_is)
    (case k4 => k_is)
    (case a5 => k_is)
    (case l5 => k_is)
    (case c5 => k_is)
    (case k5 => k_is)
    (case a6 => k_is)
    (case l6 => k_is)
    (case c6 => k_is)
    (case k6 => k_is)
    (case a7 => k_is)
    (case l7 => k_is)
    (case c7 => k_is)
    (case k7 => k_is)
    (case a8 => k_is)
    (case l8 => k_is)
    (case c8 => k_is)
    (case k8 => k_is)
    (case a9 => k_is)
    (case l9 => k_is)
    (case c9 => k_is)
    (case k9 => k_is)
    (case a10 => k_is)
    (case l10 => k_is)
    (case c10 => k_is)
    (case k10 => k_is)
    (case a11 => k_is)
    (case l11 => k_is)
    (case c11 => k_is)
    (case k11 => k_is)
    (case a12 => k_is)
    (case l12 => k_is)
    (case c12 => k_is)
    (case k12 => k_is)
    (case a13 => k_is)
    (case l13 => k_is)
    (case c13 => k_is)
    (case k13 => k_is)
    (case a14 => k_is)
    (case l14 => k_is)
    (case c14 => k_is)
    (case k14 => k_is)
    (case a15 => k_is)
    (case l15 => k_is)
    (case c15 => k_is)
    (case k15 => k_is)
    (case a16 => k_is)
    (case l16 => k_is)
    (case c16 => k_is)
    (case k16 => k_is)
    (case a17 => k_is)
    (case l17 => k_is)
    (case c17 => k_is)
    (case k17 => k_is)
    (case a18 => k_is)
    (case l18 => k_is)
    (case c18 => k_is)
    (case k18 => k_is)
    (case a19 => k_is)
    (case l19 => k_is)
    (case c19 => k_is)
    (case k19 => k_is)
    (case a20 => k_is)
    (case l20 => k_is)
    (case c20 => k_is)
    (case k20 => k_is)
    (case a21 => k_is)
    (case l21 => k_is)
    (case c21 => k_is)
    (case k21 => k_is)
    (case a22 => k_is)
    (case l22 => k_is)
    (case c22 => k_is)
    (case k22 => k_is)
    (case a23 => k_is)
    (case l23 => k_is)
    (case c23 => k_is)
    (case k23 => k_is)
    (case a24 => k_is)
    (case l24 => k_is)
    (case c24 => k_is)
    (case k24 => k_is)
    (case a25 => k_is)
    (case l25 => k_is)
    (case c25 => k_is)
    (case k25 => k_is)
    (case a26 => k_is)
    (case l26 => k_is)
    (case c26 => k_is)
    (case k26 => k_is)
    (case a27 => k_is)
    (case l27 => k_is)
    (case c27 => k_is)
    (case k27 => k_is)
    (case a28 => k_is)
    (case l28 => k_is)
    (case c28 => k_is)
    (case k28 => k_is)
    (case z_ValueError => k_is)
    (case z_dict => k_is)
    (case z_int => k_is)
    (case z_isinstance => k_is)
    (case z_len => k_is)
    (case z_list => k_is)
    (case z_max => k_is)
    (case z_min => k_is)
    (case z_range => k_is)
    (case z_sorted => k_is)
    (case z_str => k_is)
    (case z_zip => k_is)
    (case xg0 => k_is)
    (case xg1 => k_is)
    (case xg2 => k_is)
    (case xg3 => k_is)
    (case xg4 => k_is)
    (case xg5 => k_is)
    (case xg6 => k_is)
    (case xall => kernel_rfl)
    (case xk1 => k_is)
    (case xe1 => k_exc)
    (case xt1 => k_is)
    (case xL => k_is)
    (case rv => rfl)
    (case sa => k_is)
    (case ex6 => k_is)
    (case ty6 => k_is)
    (case kC6 => k_is)
    (case ai => k_is)
    (case ti => k_is)
    (case li => k_is)
    (case ci => k_is)
    (case ki => k_is)

