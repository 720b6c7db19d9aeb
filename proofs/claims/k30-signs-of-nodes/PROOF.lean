import PyProof.Rows.All
import Wide.All
import OpenK.AllK
import Wide.FinOn
import HandS.ForMost
import HandS.ForExc
import HandS.Walk
import HandS.IsInst
import PySem.Challenge.RW_anydelay_k30_signs_of_nodes
set_option Elab.async false
set_option linter.all false
set_option maxRecDepth 100000
namespace VL
open PySem L2

/-! data, results -/
inductive D where
  | non | bl (b : Bool) | int (i : Int) | str (x : List Nat) | tup (l : List D) | lst (l : List D) | dct (k : Bool) (l : List (D × D)) | opq (v : V)
abbrev Lab := List Nat
inductive T where
  | f (x : D) | l (ds : List D) | ll (ts : List T) | tt (ts : List T) | dc (k : Bool) (kvs : List (D × D)) | hole (w : V)
structure Ex where
  k : Nat
  a : Option D
inductive Res (α : Type) where
  | ok (a : α) | err (e : Ex) | fail
def rb {α β : Type} (m : Res α) (k : α → Res β) : Res β := match m with | .ok a => k a | .err e => .err e | .fail => .fail
def ob {α β : Type} (m : Option α) (k : α → Res β) : Res β := match m with | some a => k a | none => .fail
theorem rb_ok {α β : Type} (a : α) (k : α → Res β) : rb (.ok a) k = k a := rfl
theorem ob_some {α β : Type} (a : α) (k : α → Res β) : ob (some a) k = k a := rfl
theorem rb_cases {α β : Type} {m : Res α} {k : α → Res β} (h : rb m k ≠ .fail) : (∃ a, m = .ok a ∧ rb m k = k a) ∨ (∃ e, m = .err e ∧ rb m k = .err e) := by
  cases m with
  | ok a => exact .inl ⟨a, rfl, rfl⟩
  | err e => exact .inr ⟨e, rfl, rfl⟩
  | fail => exact absurd rfl h
theorem ob_cases {α β : Type} {m : Option α} {k : α → Res β} (h : ob m k ≠ .fail) : ∃ a, m = some a ∧ ob m k = k a := by
  cases m with
  | some a => exact ⟨a, rfl, rfl⟩
  | none => exact absurd rfl h

def mkS (l : List Nat) : Str := ⟨l.toArray⟩
theorem mkS_cps (l : List Nat) : (mkS l).cps.toList = l := by simp [mkS]
theorem mkS_len (l : List Nat) : (mkS l).length = l.length := by simp [mkS, Str.length]
theorem mkS_of (x : Str) : mkS x.cps.toList = x := by simp [mkS]
theorem mkS_inj {a b : List Nat} (h : mkS a = mkS b) : a = b := by
  have := congrArg (fun s : Str => s.cps.toList) h
  simpa [mkS] using this

/-! what a value tells, in a heap -/
def kD : Key → D
  | .inl i => .int i
  | .inr x => .str x.cps.toList
mutual
def Rep (G : Hp) : D → V → Prop
  | .non, v => v = .non
  | .bl b, v => v = .bl b
  | .int i, v => v = .int i
  | .str x, v => v = .str (mkS x)
  | .tup l, v => ∃ a vs, v = .ref a ∧ G a = some (.tup vs) ∧ l.length ≤ sizeLine ∧ Reps G l vs
  | .lst l, v => ∃ a vs, v = .ref a ∧ Rd G a (.lst vs) ∧ l.length ≤ sizeLine ∧ Reps G l vs
  | .dct false l, v => ∃ a kvs, v = .ref a ∧ G a = some (.dK kvs) ∧ RepK G l kvs
  | .dct true l, v => ∃ a kvs, v = .ref a ∧ G a = some (.dT kvs) ∧ RepT G l kvs
  | .opq w, v => v = w
def Reps (G : Hp) : List D → List V → Prop
  | [], vs => vs = []
  | d :: ds, vs => ∃ v r, vs = v :: r ∧ Rep G d v ∧ Reps G ds r
def RepK (G : Hp) : List (D × D) → List (Key × V) → Prop
  | [], vs => vs = []
  | (k, d) :: ds, vs => ∃ kk v r, vs = (kk, v) :: r ∧ k = kD kk ∧ Rep G d v ∧ RepK G ds r
def RepT (G : Hp) : List (D × D) → List (List Key × V) → Prop
  | [], vs => vs = []
  | (k, d) :: ds, vs => ∃ kk v r, vs = (kk, v) :: r ∧ k = .tup (kk.map kD) ∧ Rep G d v ∧ RepT G ds r
end
theorem Same.rd {G G' : Hp} (s : Same G G') {a : Addr} {o : HO} (h : Rd G a o) : Rd G' a o := by
  rcases h with h | ⟨x, h⟩
  · exact .inl (s _ _ h)
  · exact .inr ⟨x, s _ _ h⟩
mutual
theorem Rep.mono {G G' : Hp} (s : Same G G') : ∀ (d : D) (v : V), Rep G d v → Rep G' d v
  | .non, _, h => h
  | .bl _, _, h => h
  | .int _, _, h => h
  | .str _, _, h => h
  | .opq _, _, h => h
  | .tup l, _, ⟨a, vs, e, r, z, q⟩ => ⟨a, vs, e, s _ _ r, z, Reps.mono s l vs q⟩
  | .lst l, _, ⟨a, vs, e, r, z, q⟩ => ⟨a, vs, e, Same.rd s r, z, Reps.mono s l vs q⟩
  | .dct false l, _, ⟨a, kvs, e, r, q⟩ => ⟨a, kvs, e, s _ _ r, RepK.mono s l kvs q⟩
  | .dct true l, _, ⟨a, kvs, e, r, q⟩ => ⟨a, kvs, e, s _ _ r, RepT.mono s l kvs q⟩
theorem Reps.mono {G G' : Hp} (s : Same G G') : ∀ (l : List D) (vs : List V), Reps G l vs → Reps G' l vs
  | [], _, h => h
  | d :: ds, _, ⟨v, r, e, h, q⟩ => ⟨v, r, e, Rep.mono s d v h, Reps.mono s ds r q⟩
theorem RepK.mono {G G' : Hp} (s : Same G G') : ∀ (l : List (D × D)) (vs : List (Key × V)), RepK G l vs → RepK G' l vs
  | [], _, h => h
  | (k, d) :: ds, _, ⟨kk, v, r, e, ek, h, q⟩ => ⟨kk, v, r, e, ek, Rep.mono s d v h, RepK.mono s ds r q⟩
theorem RepT.mono {G G' : Hp} (s : Same G G') : ∀ (l : List (D × D)) (vs : List (List Key × V)), RepT G l vs → RepT G' l vs
  | [], _, h => h
  | (k, d) :: ds, _, ⟨kk, v, r, e, ek, h, q⟩ => ⟨kk, v, r, e, ek, Rep.mono s d v h, RepT.mono s ds r q⟩
end
theorem Reps.length {G : Hp} : ∀ {l : List D} {vs : List V}, Reps G l vs → l.length = vs.length
  | [], _, h => by cases h; rfl
  | d :: ds, _, ⟨v, r, e, h, q⟩ => by subst e; simp [Reps.length q]
theorem Reps.get {G : Hp} : ∀ {l : List D} {vs : List V} {i : Nat} {d : D}, Reps G l vs → l[i]? = some d → ∃ v, vs[i]? = some v ∧ Rep G d v
  | [], _, _, _, _, e => by simp at e
  | d :: ds, _, 0, x, ⟨v, r, e, h, q⟩, e2 => by subst e; simp at e2; subst e2; exact ⟨v, rfl, h⟩
  | d :: ds, _, i + 1, x, ⟨v, r, e, h, q⟩, e2 => by
    subst e
    obtain ⟨v', a, b⟩ := Reps.get (i := i) q (by simpa using e2)
    exact ⟨v', by simpa using a, b⟩
theorem Reps.of {G : Hp} : ∀ {l : List D} {vs : List V}, l.length = vs.length → (∀ (i : Nat) d v, l[i]? = some d → vs[i]? = some v → Rep G d v) → Reps G l vs
  | [], [], _, _ => rfl
  | [], _ :: _, e, _ => by simp at e
  | _ :: _, [], e, _ => by simp at e
  | d :: ds, v :: vs, e, h => ⟨v, vs, rfl, h 0 d v rfl rfl, Reps.of (by simpa using e) fun i d' v' a b => h (i + 1) d' v' (by simpa using a) (by simpa using b)⟩
theorem Reps.append {G : Hp} : ∀ {l m : List D} {vs ws : List V}, Reps G l vs → Reps G m ws → Reps G (l ++ m) (vs ++ ws)
  | [], _, _, _, h, q => by cases h; exact q
  | d :: ds, _, _, _, ⟨v, r, e, h, q⟩, q2 => by subst e; exact ⟨v, r ++ _, rfl, h, Reps.append q q2⟩
theorem Reps.take {G : Hp} (n : Nat) : ∀ {l : List D} {vs : List V}, Reps G l vs → Reps G (l.take n) (vs.take n) := fun {l vs} h => by
  refine Reps.of (by simp [h.length]) fun i d v a b => ?_
  rw [List.getElem?_take] at a b
  split at a
  · rename_i hi
    rw [if_pos hi] at b
    obtain ⟨v', e, r⟩ := h.get a
    rw [b] at e; cases e; exact r
  · cases a
theorem Reps.drop {G : Hp} (n : Nat) : ∀ {l : List D} {vs : List V}, Reps G l vs → Reps G (l.drop n) (vs.drop n) := fun {l vs} h => by
  refine Reps.of (by simp [h.length]) fun i d v a b => ?_
  rw [List.getElem?_drop] at a b
  obtain ⟨v', e, r⟩ := h.get a
  rw [b] at e; cases e; exact r
theorem Reps.set {G : Hp} {l : List D} {vs : List V} {d : D} {v : V} (i : Nat) (h : Reps G l vs) (r : Rep G d v) : Reps G (l.set i d) (vs.set i v) := by
  refine Reps.of (by simp [h.length]) fun j d' v' a b => ?_
  rw [List.getElem?_set] at a b
  have hl := h.length
  split at a
  · rename_i hj
    split at a
    · rename_i hj2
      rw [if_pos hj, if_pos (by omega)] at b
      cases a; cases b; exact r
    · cases a
  · rename_i hj
    rw [if_neg hj] at b
    obtain ⟨w, e, r'⟩ := h.get a
    rw [b] at e; cases e; exact r'
theorem Reps.dropLast {G : Hp} {l : List D} {vs : List V} (h : Reps G l vs) : Reps G l.dropLast vs.dropLast := by
  rw [List.dropLast_eq_take, List.dropLast_eq_take, h.length]
  exact h.take _
theorem Reps.eraseIdx {G : Hp} {l : List D} {vs : List V} (k : Nat) (h : Reps G l vs) : Reps G (l.eraseIdx k) (vs.eraseIdx k) := by
  rw [List.eraseIdx_eq_take_drop_succ, List.eraseIdx_eq_take_drop_succ]
  exact (h.take k).append (h.drop (k + 1))
theorem Reps.reverse {G : Hp} : ∀ {l : List D} {vs : List V}, Reps G l vs → Reps G l.reverse vs.reverse
  | [], _, h => by cases h; exact rfl
  | d :: ds, _, ⟨v, r, e, h, q⟩ => by
    subst e
    rw [List.reverse_cons, List.reverse_cons]
    exact (Reps.reverse q).append ⟨v, [], rfl, h, rfl⟩
theorem Reps.map {G : Hp} {α : Type} (f : α → D) (g : α → V) : ∀ (xs : List α), (∀ x ∈ xs, Rep G (f x) (g x)) → Reps G (xs.map f) (xs.map g)
  | [], _ => rfl
  | x :: r, h => ⟨g x, r.map g, rfl, h x List.mem_cons_self, Reps.map f g r fun y hy => h y (List.mem_cons_of_mem _ hy)⟩

/-! owned things -/
mutual
def Own (G H : Hp) (ω : Addr → Option Lab) : Lab → T → V → Prop
  | _, .f d, v => Rep G d v
  | p, .l ds, v => ∃ a vs, v = .ref a ∧ H a = some (.lst vs) ∧ ω a = some p ∧ ds.length ≤ sizeLine ∧ Reps G ds vs
  | p, .ll ts, v => ∃ a vs, v = .ref a ∧ H a = some (.lst vs) ∧ ω a = some p ∧ ts.length ≤ sizeLine ∧ Owns G H ω p 0 ts vs
  | p, .tt ts, v => ∃ a vs, v = .ref a ∧ H a = some (.tup vs) ∧ ω a = some p ∧ ts.length ≤ sizeLine ∧ Owns G H ω p 0 ts vs
  | p, .dc false l, v => ∃ a kvs, v = .ref a ∧ ω a = some p ∧ H a = some (.dK kvs) ∧ RepK G l kvs
  | p, .dc true l, v => ∃ a kvs, v = .ref a ∧ ω a = some p ∧ H a = some (.dT kvs) ∧ RepT G l kvs
  | _, .hole w, v => v = w
def Owns (G H : Hp) (ω : Addr → Option Lab) : Lab → Nat → List T → List V → Prop
  | _, _, [], vs => vs = []
  | p, i, t :: ts, vs => ∃ v r, vs = v :: r ∧ Own G H ω (p ++ [i]) t v ∧ Owns G H ω p (i + 1) ts r
end
mutual
theorem Own.move {G G' H H' : Hp} {ω ω' : Addr → Option Lab} (s : Same G G') : ∀ (p q : Lab) (t : T) (v : V), (∀ a x, ω a = some (p ++ x) → H' a = H a ∧ ω' a = some (q ++ x)) → Own G H ω p t v → Own G' H' ω' q t v
  | _, _, .f d, v, _, h => Rep.mono s d v h
  | p, q, .l ds, v, m, ⟨a, vs, e, h, w, z, r⟩ => by
    obtain ⟨m1, m2⟩ := m a [] (by rw [List.append_nil]; exact w)
    rw [List.append_nil] at m2
    exact ⟨a, vs, e, m1.trans h, m2, z, Reps.mono s ds vs r⟩
  | p, q, .ll ts, v, m, ⟨a, vs, e, h, w, z, r⟩ => by
    obtain ⟨m1, m2⟩ := m a [] (by rw [List.append_nil]; exact w)
    rw [List.append_nil] at m2
    exact ⟨a, vs, e, m1.trans h, m2, z, Owns.move s p q 0 ts vs m r⟩
  | p, q, .tt ts, v, m, ⟨a, vs, e, h, w, z, r⟩ => by
    obtain ⟨m1, m2⟩ := m a [] (by rw [List.append_nil]; exact w)
    rw [List.append_nil] at m2
    exact ⟨a, vs, e, m1.trans h, m2, z, Owns.move s p q 0 ts vs m r⟩
  | p, q, .dc false l, v, m, ⟨a, kvs, e, w, h, r⟩ => by
    obtain ⟨m1, m2⟩ := m a [] (by rw [List.append_nil]; exact w)
    rw [List.append_nil] at m2
    exact ⟨a, kvs, e, m2, m1.trans h, RepK.mono s l kvs r⟩
  | p, q, .dc true l, v, m, ⟨a, kvs, e, w, h, r⟩ => by
    obtain ⟨m1, m2⟩ := m a [] (by rw [List.append_nil]; exact w)
    rw [List.append_nil] at m2
    exact ⟨a, kvs, e, m2, m1.trans h, RepT.mono s l kvs r⟩
  | _, _, .hole _, _, _, h => h
theorem Owns.move {G G' H H' : Hp} {ω ω' : Addr → Option Lab} (s : Same G G') : ∀ (p q : Lab) (i : Nat) (ts : List T) (vs : List V), (∀ a x, ω a = some (p ++ x) → H' a = H a ∧ ω' a = some (q ++ x)) → Owns G H ω p i ts vs → Owns G' H' ω' q i ts vs
  | _, _, _, [], _, _, h => h
  | p, q, i, t :: ts, _, m, ⟨v, r, e, h, k⟩ => ⟨v, r, e, Own.move s (p ++ [i]) (q ++ [i]) t v (fun a x e => by
      rw [List.append_assoc] at e ⊢
      exact m a _ e) h, Owns.move s p q (i + 1) ts r m k⟩
end
mutual
def T.er : T → D
  | .f x => x
  | .l ds => .lst ds
  | .ll ts => .lst (T.ers ts)
  | .tt ts => .tup (T.ers ts)
  | .dc k kvs => .dct k kvs
  | .hole w => .opq w
def T.ers : List T → List D
  | [] => []
  | t :: ts => T.er t :: T.ers ts
end
theorem ers_eq : ∀ ts : List T, T.ers ts = ts.map T.er
  | [] => rfl
  | t :: ts => by rw [List.map_cons, ← ers_eq ts]; rfl
theorem ers_len (ts : List T) : (T.ers ts).length = ts.length := by rw [ers_eq, List.length_map]
/-! what is told, in a heap that has both -/
mutual
theorem Own.rep {G G' H : Hp} {ω : Addr → Option Lab} (s : Same G G') : ∀ (p : Lab) (t : T) (v : V), (∀ a x, ω a = some (p ++ x) → ∀ o, H a = some o → G' a = some o) → Own G H ω p t v → Rep G' t.er v
  | _, .f d, v, _, h => Rep.mono s d v h
  | p, .l ds, v, m, ⟨a, vs, e, h, w, z, r⟩ => ⟨a, vs, e, .inl (m a [] (by rw [List.append_nil]; exact w) _ h), z, Reps.mono s ds vs r⟩
  | p, .ll ts, v, m, ⟨a, vs, e, h, w, z, r⟩ => ⟨a, vs, e, .inl (m a [] (by rw [List.append_nil]; exact w) _ h), (Nat.le_trans (Nat.le_of_eq (ers_len ts)) z), Owns.rep s p 0 ts vs m r⟩
  | p, .tt ts, v, m, ⟨a, vs, e, h, w, z, r⟩ => ⟨a, vs, e, m a [] (by rw [List.append_nil]; exact w) _ h, (Nat.le_trans (Nat.le_of_eq (ers_len ts)) z), Owns.rep s p 0 ts vs m r⟩
  | p, .dc false l, v, m, ⟨a, kvs, e, w, h, r⟩ => ⟨a, kvs, e, m a [] (by rw [List.append_nil]; exact w) _ h, RepK.mono s l kvs r⟩
  | p, .dc true l, v, m, ⟨a, kvs, e, w, h, r⟩ => ⟨a, kvs, e, m a [] (by rw [List.append_nil]; exact w) _ h, RepT.mono s l kvs r⟩
  | _, .hole _, _, _, h => h
theorem Owns.rep {G G' H : Hp} {ω : Addr → Option Lab} (s : Same G G') : ∀ (p : Lab) (i : Nat) (ts : List T) (vs : List V), (∀ a x, ω a = some (p ++ x) → ∀ o, H a = some o → G' a = some o) → Owns G H ω p i ts vs → Reps G' (T.ers ts) vs
  | _, _, [], _, _, h => h
  | p, i, t :: ts, _, m, ⟨v, r, e, h, k⟩ => ⟨v, r, e, Own.rep s (p ++ [i]) t v (fun a x e => by
      rw [List.append_assoc] at e
      exact m a _ e) h, Owns.rep s p (i + 1) ts r m k⟩
end
end VL

namespace VL
open PySem L2

/-- a def's frame: what stood at its entry -/
structure Fc where
  K : PySem.W.Frag
  G0 : Hp
  H0 : Hp
  w0 : Addr → Option Lab
  E : XK
  ec : Nat → Addr
  pv : Nat → Option V
inductive TM where
  | own (t : T) | ali (i : Nat)
abbrev State := List (Option T)
abbrev Tmp := List (V × TM)
def TmOk (G H : Hp) (ω : Addr → Option Lab) (σ : St) (p : Lab) : TM → V → Prop
  | .own t, v => Own G H ω p t v
  | .ali i, v => σ[i]? = some (some v)
def Tms (G H : Hp) (ω : Addr → Option Lab) (σ : St) : Tmp → Prop
  | [] => True
  | x :: r => TmOk G H ω σ [1, r.length] x.2 x.1 ∧ Tms G H ω σ r
structure Hd (F : Fc) (G : Hp) (ω : Addr → Option Lab) (tmp : Tmp) (s : State) (σ : St) (H : Hp) : Prop where
  g0 : Same F.G0 G
  gH : Same G H
  gn : ∀ a o, G a = some o → F.G0 a = some o ∨ F.H0 a = none ∨ (F.w0 a).isSome = true
  fr : ∀ a o, F.H0 a = some o → F.w0 a = none → H a = some o
  ex : ∀ a o, F.H0 a = some o → ∃ o', H a = some o'
  wg : ∀ a p, ω a = some p → G a = none ∧ (∃ o, H a = some o) ∧ (F.H0 a = none ∨ (F.w0 a).isSome = true)
  len : σ.length = s.length
  sl : ∀ i t, s[i]? = some (some t) → ∃ v, σ[i]? = some (some v) ∧ Own G H ω [0, i] t v
  tm : Tms G H ω σ tmp
  pn : ∀ k v, F.pv k = some v → σ[k]? = some (some v)
def Holds (F : Fc) (tmp : Tmp) (s : State) (σ : St) (H : Hp) : Prop := ∃ G ω, Hd F G ω tmp s σ H

/-- temporaries stay where their labels' objects stay -/
theorem Tms.move {G G' H H' : Hp} {ω ω' : Addr → Option Lab} {σ : St} (s : Same G G') : ∀ (tmp : Tmp), (∀ j a x, j < tmp.length → ω a = some ([1, j] ++ x) → H' a = H a ∧ ω' a = some ([1, j] ++ x)) →
    Tms G H ω σ tmp → Tms G' H' ω' σ tmp
  | [], _, _ => trivial
  | x :: r, m, ⟨a, b⟩ => by
    refine ⟨?_, Tms.move s r (fun j a x hj e => m j a x (Nat.lt_succ_of_lt hj) e) b⟩
    obtain ⟨v, tm⟩ := x
    cases tm with
    | own t => exact Own.move s _ _ t v (fun a x e => m _ a x (Nat.lt_succ_self _) e) a
    | ali i => exact a
section
variable {F : Fc} {G H H' : Hp} {ω : Addr → Option Lab} {tmp : Tmp} {s : State} {σ : St} {v : V} {t : T} {d : D}
theorem Hd.new (h : Hd F G ω tmp s σ H) {p : Addr} (n : H p = none) : F.H0 p = none := by
  cases e : F.H0 p with
  | none => rfl
  | some o =>
    obtain ⟨o', e'⟩ := h.ex p o e
    rw [n] at e'; cases e'
theorem Hd.gfree (h : Hd F G ω tmp s σ H) {p : Addr} (n : H p = none) : G p = none := by
  cases e : G p with
  | none => rfl
  | some o => rw [h.gH p o e] at n; cases n
theorem Hd.wfree (h : Hd F G ω tmp s σ H) {p : Addr} (n : H p = none) : ω p = none := by
  cases e : ω p with
  | none => rfl
  | some q =>
    obtain ⟨_, ⟨o, e'⟩, _⟩ := h.wg p q e
    rw [n] at e'; cases e'
theorem Hd.pop (h : Hd F G ω (x :: tmp) s σ H) : Hd F G ω tmp s σ H := { h with tm := h.tm.2 }
theorem Holds.pop {x : V × TM} (h : Holds F (x :: tmp) s σ H) : Holds F tmp s σ H := let ⟨G, ω, q⟩ := h; ⟨G, ω, q.pop⟩
theorem Holds.len (h : Holds F tmp s σ H) : σ.length = s.length := let ⟨_, _, q⟩ := h; q.len
/-- a frozen temporary on top -/
theorem Hd.pushF (h : Hd F G ω tmp s σ H) (r : Rep G d v) : Hd F G ω ((v, .own (.f d)) :: tmp) s σ H := { h with tm := ⟨r, h.tm⟩ }
theorem Hd.topF (h : Hd F G ω ((v, .own (.f d)) :: tmp) s σ H) : Rep G d v := h.tm.1
theorem upd_keep {p a : Addr} {o u : HO} (n : H p = none) (e : H a = some o) : upd H p u a = some o := by rw [upd_ne (ne_of_none e n)]; exact e
/-- a new object, frozen -/
theorem Hd.newG (h : Hd F G ω tmp s σ H) {p : Addr} {o : HO} (n : H p = none) : Hd F (upd G p o) ω tmp s σ (upd H p o) := by
  have gn := h.gfree n
  have sG : Same G (upd G p o) := fun a u e => upd_keep gn e
  have keep : ∀ a q, ω a = some q → upd H p o a = H a := fun a q e => by
    obtain ⟨_, ⟨u, e'⟩, _⟩ := h.wg a q e
    exact upd_ne (ne_of_none e' n)
  refine ⟨h.g0.trans sG, fun a u e => ?_, fun a u e => ?_, fun a u e w => upd_keep n (h.fr a u e w), fun a u e => ?_, fun a q e => ?_, h.len, fun i t e => ?_, Tms.move sG tmp (fun j a x _ e => ⟨keep a _ e, e⟩) h.tm, h.pn⟩
  · by_cases ha : a = p
    · subst ha; rw [upd_same] at e ⊢; exact e
    · rw [upd_ne ha] at e ⊢; exact h.gH a u e
  · by_cases ha : a = p
    · subst ha; exact .inr (.inl (h.new n))
    · rw [upd_ne ha] at e; exact h.gn a u e
  · obtain ⟨o', e'⟩ := h.ex a u e
    exact ⟨o', upd_keep n e'⟩
  · obtain ⟨q1, ⟨u, q2⟩, q3⟩ := h.wg a q e
    refine ⟨?_, ⟨u, upd_keep n q2⟩, q3⟩
    rw [upd_ne (ne_of_none q2 n)]; exact q1
  · obtain ⟨v, e1, e2⟩ := h.sl i t e
    exact ⟨v, e1, Own.move sG _ _ t v (fun a x e => ⟨keep a _ e, e⟩) e2⟩
/-- a new object, owned by a new temporary -/
theorem Hd.newO (h : Hd F G ω tmp s σ H) {p : Addr} {o : HO} (n : H p = none) (q : Own G (upd H p o) (fun a => if a = p then some [1, tmp.length] else ω a) [1, tmp.length] t (.ref p)) :
    Hd F G (fun a => if a = p then some [1, tmp.length] else ω a) ((.ref p, .own t) :: tmp) s σ (upd H p o) := by
  have keep : ∀ a q, ω a = some q → upd H p o a = H a ∧ (if a = p then some [1, tmp.length] else ω a) = some q := fun a q e => by
    obtain ⟨_, ⟨u, e'⟩, _⟩ := h.wg a q e
    have ne := ne_of_none e' n
    exact ⟨upd_ne ne, by rw [if_neg ne]; exact e⟩
  refine ⟨h.g0, fun a u e => upd_keep n (h.gH a u e), h.gn, fun a u e w => upd_keep n (h.fr a u e w), fun a u e => ?_, fun a q e => ?_, h.len, fun i t e => ?_, ⟨q, Tms.move (Same.refl _) tmp (fun j a x _ e => keep a _ e) h.tm⟩, h.pn⟩
  · obtain ⟨o', e'⟩ := h.ex a u e
    exact ⟨o', upd_keep n e'⟩
  · by_cases ha : a = p
    · subst ha; exact ⟨h.gfree n, ⟨o, upd_same⟩, .inl (h.new n)⟩
    · simp only [if_neg ha] at e
      obtain ⟨q1, ⟨u, q2⟩, q3⟩ := h.wg a q e
      exact ⟨q1, ⟨u, upd_keep n q2⟩, q3⟩
  · obtain ⟨v, e1, e2⟩ := h.sl i t e
    exact ⟨v, e1, Own.move (Same.refl _) _ _ t v (fun a x e => keep a _ e) e2⟩
theorem Hd.newL (h : Hd F G ω tmp s σ H) {p : Addr} {ds : List D} {vs : List V} (n : H p = none) (z : ds.length ≤ sizeLine) (r : Reps G ds vs) : Holds F ((.ref p, .own (.l ds)) :: tmp) s σ (upd H p (.lst vs)) :=
  ⟨G, _, h.newO n ⟨p, vs, rfl, upd_same, by simp, z, r⟩⟩
theorem Hd.newT (h : Hd F G ω tmp s σ H) {p : Addr} {ds : List D} {vs : List V} (n : H p = none) (z : ds.length ≤ sizeLine) (r : Reps G ds vs) : Holds F ((.ref p, .own (.f (.tup ds))) :: tmp) s σ (upd H p (.tup vs)) :=
  ⟨_, ω, (h.newG n).pushF ⟨p, vs, rfl, upd_same, z, Reps.mono (fun a u e => upd_keep (h.gfree n) e) _ _ r⟩⟩

/-! freezing -/
def pre : Lab → Lab → Bool
  | [], _ => true
  | _ :: _, [] => false
  | a :: p, b :: q => a == b && pre p q
theorem pre_app : ∀ (p x : Lab), pre p (p ++ x) = true
  | [], _ => rfl
  | a :: p, x => by simp [pre, pre_app p x]
theorem pre_iff : ∀ (p q : Lab), pre p q = true → ∃ x, q = p ++ x
  | [], q, _ => ⟨q, rfl⟩
  | a :: p, [], h => by simp [pre] at h
  | a :: p, b :: q, h => by
    simp [pre] at h
    obtain ⟨rfl, h⟩ := h
    obtain ⟨x, rfl⟩ := pre_iff p q h
    exact ⟨x, rfl⟩
/-- label p is frozen -/
def frzG (G H : Hp) (ω : Addr → Option Lab) (p : Lab) : Hp := fun a => match ω a with
  | some q => if pre p q = true then H a else G a
  | none => G a
def frzW (ω : Addr → Option Lab) (p : Lab) : Addr → Option Lab := fun a => match ω a with
  | some q => if pre p q = true then none else some q
  | none => none
theorem frzW_some {p q : Lab} {a : Addr} (e : frzW ω p a = some q) : ω a = some q ∧ pre p q = false := by
  unfold frzW at e
  split at e
  · rename_i r hr
    split at e
    · cases e
    · cases e; rename_i hn; exact ⟨hr, Bool.eq_false_iff.mpr hn⟩
  · cases e
theorem frzW_of {p q : Lab} {a : Addr} (e : ω a = some q) (n : pre p q = false) : frzW ω p a = some q := by
  unfold frzW; rw [e]; simp [n]
theorem frzG_same (h : Hd F G ω tmp s σ H) (p : Lab) : Same G (frzG G H ω p) := fun a o e => by
  unfold frzG
  split
  · rename_i q hq
    have := (h.wg a q hq).1
    rw [e] at this; cases this
  · exact e
theorem frzG_in {p q : Lab} {a : Addr} (e : ω a = some q) (n : pre p q = true) : frzG G H ω p a = H a := by
  unfold frzG; rw [e]; simp [n]
/-- everything but the slots and temporaries -/
theorem Hd.frz (h : Hd F G ω tmp s σ H) (p : Lab) (s' : State) (σ' : St) (tmp' : Tmp) (hl : σ'.length = s'.length)
    (hs : ∀ i t, s'[i]? = some (some t) → ∃ v, σ'[i]? = some (some v) ∧ Own (frzG G H ω p) H (frzW ω p) [0, i] t v) (ht : Tms (frzG G H ω p) H (frzW ω p) σ' tmp') (hp : ∀ k v, F.pv k = some v → σ'[k]? = some (some v)) : Hd F (frzG G H ω p) (frzW ω p) tmp' s' σ' H := by
  have sG := frzG_same h p
  refine ⟨h.g0.trans sG, fun a o e => ?_, fun a o e => ?_, h.fr, h.ex, fun a q e => ?_, hl, hs, ht, hp⟩
  · unfold frzG at e
    split at e
    · split at e
      · exact e
      · exact h.gH a o e
    · exact h.gH a o e
  · unfold frzG at e
    split at e
    · rename_i q hq
      split at e
      · exact .inr (h.wg a q hq).2.2
      · exact h.gn a o e
    · exact h.gn a o e
  · obtain ⟨e1, e2⟩ := frzW_some e
    obtain ⟨q1, q2, q3⟩ := h.wg a q e1
    refine ⟨?_, q2, q3⟩
    unfold frzG; rw [e1]; simp [e2, q1]
theorem Own.frzOther {p q : Lab} (sG : Same G (frzG G H ω p)) (hpq : ∀ x, pre p (q ++ x) = false) (h : Own G H ω q t v) : Own (frzG G H ω p) H (frzW ω p) q t v :=
  Own.move sG q q t v (fun a x e => ⟨rfl, frzW_of e (hpq x)⟩) h
theorem Own.frzRep {p : Lab} (sG : Same G (frzG G H ω p)) (h : Own G H ω p t v) : Rep (frzG G H ω p) t.er v :=
  Own.rep sG p t v (fun a x e o ho => by rw [frzG_in e (pre_app p x)]; exact ho) h
theorem Tms.frzOther {p : Lab} (sG : Same G (frzG G H ω p)) (tmp : Tmp) (hp : ∀ j x, j < tmp.length → pre p ([1, j] ++ x) = false) (h : Tms G H ω σ tmp) : Tms (frzG G H ω p) H (frzW ω p) σ tmp :=
  Tms.move sG tmp (fun j a x hj e => ⟨rfl, frzW_of e (hp j x hj)⟩) h
/-- the top temporary is frozen -/
theorem Holds.frzTop (h : Holds F ((v, .own t) :: tmp) s σ H) : Holds F ((v, .own (.f t.er)) :: tmp) s σ H := by
  obtain ⟨G, ω, h⟩ := h
  have sG := frzG_same h [1, tmp.length]
  refine ⟨_, _, h.frz [1, tmp.length] s σ _ h.len (fun i u e => ?_) ⟨Own.frzRep sG h.tm.1, Tms.frzOther sG tmp (fun j x hj => ?_) h.tm.2⟩ h.pn⟩
  · obtain ⟨v', e1, e2⟩ := h.sl i u e
    exact ⟨v', e1, Own.frzOther sG (fun x => by simp [pre]) e2⟩
  · have : tmp.length ≠ j := by omega
    simp [pre, this]
/-- a slot is frozen -/
theorem Holds.frzSlot (h : Holds F tmp s σ H) {i : Nat} (hi : s[i]? = some (some t)) : Holds F tmp (s.set i (some (.f t.er))) σ H := by
  obtain ⟨G, ω, h⟩ := h
  have sG := frzG_same h [0, i]
  refine ⟨_, _, h.frz [0, i] _ σ _ (by simp [h.len]) (fun j u e => ?_) (Tms.frzOther sG tmp (fun j x hj => by simp [pre]) h.tm) h.pn⟩
  rw [List.getElem?_set] at e
  split at e
  · rename_i hj
    subst hj
    split at e
    · cases e
      obtain ⟨v', e1, e2⟩ := h.sl i t hi
      exact ⟨v', e1, Own.frzRep sG e2⟩
    · cases e
  · rename_i hj
    obtain ⟨v', e1, e2⟩ := h.sl j u e
    exact ⟨v', e1, Own.frzOther sG (fun x => by simp [pre, hj]) e2⟩
end
end VL

namespace VL
open PySem L2

/-! relabelling, storing -/
def rl (ω : Addr → Option Lab) (φ : Lab → Option Lab) : Addr → Option Lab := fun a => (ω a).bind φ
theorem rl_some {ω : Addr → Option Lab} {φ : Lab → Option Lab} {a : Addr} {q : Lab} (h : rl ω φ a = some q) : ∃ p, ω a = some p ∧ φ p = some q := by
  unfold rl at h
  cases e : ω a with
  | none => rw [e] at h; cases h
  | some p => rw [e] at h; exact ⟨p, rfl, h⟩
theorem rl_of {ω : Addr → Option Lab} {φ : Lab → Option Lab} {a : Addr} {p q : Lab} (h : ω a = some p) (h2 : φ p = some q) : rl ω φ a = some q := by
  unfold rl; rw [h]; exact h2
section
variable {F : Fc} {G H H' : Hp} {ω : Addr → Option Lab} {tmp : Tmp} {s : State} {σ : St} {v : V} {t : T} {d : D}
theorem Hd.rl (h : Hd F G ω tmp s σ H) (φ : Lab → Option Lab) (s' : State) (σ' : St) (tmp' : Tmp) (hl : σ'.length = s'.length)
    (hs : ∀ i t, s'[i]? = some (some t) → ∃ v, σ'[i]? = some (some v) ∧ Own G H (VL.rl ω φ) [0, i] t v) (ht : Tms G H (VL.rl ω φ) σ' tmp') (hp : ∀ k v, F.pv k = some v → σ'[k]? = some (some v)) : Hd F G (VL.rl ω φ) tmp' s' σ' H :=
  ⟨h.g0, h.gH, h.gn, h.fr, h.ex, fun a q e => by
    obtain ⟨p, e1, _⟩ := rl_some e
    exact h.wg a p e1, hl, hs, ht, hp⟩
theorem Own.rl {φ : Lab → Option Lab} {p q : Lab} (h : Own G H ω p t v) (e : ∀ x, φ (p ++ x) = some (q ++ x)) : Own G H (VL.rl ω φ) q t v :=
  Own.move (Same.refl G) p q t v (fun a x w => ⟨rfl, rl_of w (e x)⟩) h
theorem Tms.rl {φ : Lab → Option Lab} (tmp : Tmp) (e : ∀ j x, j < tmp.length → φ ([1, j] ++ x) = some ([1, j] ++ x)) (h : Tms G H ω σ tmp) : Tms G H (VL.rl ω φ) σ tmp :=
  Tms.move (Same.refl G) tmp (fun j a x hj w => ⟨rfl, rl_of w (e j x hj)⟩) h
/-- no temporary speaks of slot i -/
def noAli (i : Nat) : Tmp → Bool
  | [] => true
  | (_, .own _) :: r => noAli i r
  | (_, .ali j) :: r => (j != i) && noAli i r
theorem Tms.slots {σ' : St} : ∀ (tmp : Tmp), (∀ i, noAli i tmp = false → σ'[i]? = σ[i]?) → Tms G H ω σ tmp → Tms G H ω σ' tmp
  | [], _, _ => trivial
  | (v, .own t) :: r, m, ⟨a, b⟩ => ⟨a, Tms.slots r (fun i h => m i h) b⟩
  | (v, .ali j) :: r, m, ⟨a, b⟩ => ⟨(m j (by simp [noAli])).trans a, Tms.slots r (fun i h => m i (by simp [noAli, h])) b⟩
def phiSt (n i : Nat) : Lab → Option Lab
  | 1 :: j :: x => if j = n then some (0 :: i :: x) else some (1 :: j :: x)
  | 0 :: j :: x => if j = i then none else some (0 :: j :: x)
  | l => some l
/-- the top temporary goes into slot i -/
theorem Holds.store (h : Holds F ((v, .own t) :: tmp) s σ H) {i : Nat} (hi : i < s.length) (na : noAli i tmp = true) (hp : F.pv i = none) : Holds F tmp (s.set i (some t)) (σ.set i (some v)) H := by
  obtain ⟨G, ω, h⟩ := h
  refine ⟨G, _, h.rl (phiSt tmp.length i) _ _ _ (by simp [h.len]) (fun j u e => ?_) ?_ fun k u e => ?_⟩
  · rw [List.getElem?_set] at e
    by_cases hj : i = j
    · subst hj
      rw [if_pos rfl, if_pos hi] at e
      cases e
      refine ⟨v, by rw [List.getElem?_set_self (by rw [h.len]; exact hi)], Own.rl h.tm.1 fun x => by simp [phiSt]⟩
    · rw [if_neg hj] at e
      obtain ⟨v', e1, e2⟩ := h.sl j u e
      have hj' : ¬ j = i := fun z => hj z.symm
      exact ⟨v', by rw [List.getElem?_set_ne hj]; exact e1, Own.rl e2 fun x => by simp [phiSt, hj']⟩
  · refine Tms.slots tmp (fun j hj => ?_) (Tms.rl tmp (fun j x hj => ?_) h.tm.2)
    · have : i ≠ j := fun e => by subst e; rw [na] at hj; cases hj
      rw [List.getElem?_set_ne this]
    · have : ¬ j = tmp.length := by omega
      simp [phiSt, this]
  · have : i ≠ k := fun z => by subst z; rw [hp] at e; cases e
    rw [List.getElem?_set_ne this]
    exact h.pn k u e
/-- less is known -/
def Sub : State → State → Prop
  | [], [] => True
  | a :: r, b :: q => (b = none ∨ a = b) ∧ Sub r q
  | _, _ => False
theorem Sub.refl : ∀ s : State, Sub s s
  | [] => trivial
  | _ :: r => ⟨.inr rfl, Sub.refl r⟩
theorem Sub.len : ∀ {s q : State}, Sub s q → s.length = q.length
  | [], [], _ => rfl
  | _ :: r, _ :: q, h => by simp [Sub.len h.2]
theorem Sub.get : ∀ {s q : State} {i : Nat} {t : T}, Sub s q → q[i]? = some (some t) → s[i]? = some (some t)
  | [], [], _, _, _, e => by simp at e
  | a :: r, b :: q, 0, t, ⟨h, _⟩, e => by
    simp at e
    rcases h with h | h
    · rw [h] at e; cases e
    · simp [h, e]
  | a :: r, b :: q, i + 1, t, ⟨_, h⟩, e => by
    have := Sub.get (i := i) h (by simpa using e)
    simpa using this
theorem Holds.sub (h : Holds F tmp s σ H) {s' : State} (q : Sub s s') : Holds F tmp s' σ H :=
  let ⟨G, ω, h⟩ := h
  ⟨G, ω, { h with len := h.len.trans q.len, sl := fun i t e => h.sl i t (q.get e) }⟩
def phiRet (n : Nat) : Lab → Option Lab
  | 1 :: j :: x => if j = n then some (1 :: 0 :: x) else none
  | l => some l
/-- the top temporary alone -/
theorem Holds.alone (h : Holds F ((v, .own t) :: tmp) s σ H) : Holds F [(v, .own t)] s σ H := by
  obtain ⟨G, ω, h⟩ := h
  refine ⟨G, _, h.rl (phiRet tmp.length) s σ _ h.len (fun j u e => ?_) ⟨?_, trivial⟩ h.pn⟩
  · obtain ⟨v', e1, e2⟩ := h.sl j u e
    exact ⟨v', e1, Own.rl e2 fun x => by simp [phiRet]⟩
  · exact Own.rl h.tm.1 fun x => by simp [phiRet]
end

/-! the readings -/
def ErrP (F : Fc) (e : Ex) (od : Option Addr) (H' : Hp) : Prop :=
  ∃ G', Same F.G0 G' ∧ Same G' H' ∧ (∀ a o, G' a = some o → F.G0 a = some o ∨ F.H0 a = none ∨ (F.w0 a).isSome = true) ∧ (∀ a o, F.H0 a = some o → F.w0 a = none → H' a = some o) ∧
    (∀ a o, F.H0 a = some o → ∃ o', H' a = some o') ∧
    (match e.a with | none => od = none | some d => ∃ dx v, od = some dx ∧ F.H0 dx = none ∧ G' dx = some (.xd [("at", v)]) ∧ Rep G' d v)
def EOk {R : Type} (F : Fc) (m : Res R) : Prop := ∀ e, m = .err e → ∀ od H', ErrP F e od H' → F.E (.ref (F.ec e.k)) od H'
theorem EOk.of {R S : Type} {F : Fc} {m : Res R} {m' : Res S} (h : EOk F m) (q : ∀ e, m' = .err e → m = .err e) : EOk F m' := fun e he => h e (q e he)
abbrev Rs (R : Type) := TM → State → Res R → Prop
def RD {R : Type} (F : Fc) (tmp : Tmp) (s : State) (t : TE) (m : Res R) (K : Rs R) : Prop :=
  ∀ σ H Q, Holds F tmp s σ H → m ≠ .fail → EOk F m → (∀ tm s' v H', K tm s' m → Holds F ((v, tm) :: tmp) s' σ H' → Q v H') → t σ H Q
end VL

namespace VL
open PySem L2

def pushes : List V → List TM → Tmp → Tmp
  | v :: vs, t :: ts, tmp => pushes vs ts ((v, t) :: tmp)
  | _, _, tmp => tmp
abbrev Rn (R : Type) := State → Res R → Prop
abbrev Rr (R : Type) := T → State → Res R → Prop
section
variable {R : Type} (F : Fc) (tmp : Tmp) (s : State) (m : Res R)
def RT (t : TT) (K : Bool → State → Res R → Prop) : Prop :=
  ∀ σ H Q, Holds F tmp s σ H → m ≠ .fail → EOk F m → (∀ b s' H', K b s' m → Holds F tmp s' σ H' → Q b H') → t σ H Q
def RA (t : TA) (K : List TM → State → Res R → Prop) : Prop :=
  ∀ σ H Q, Holds F tmp s σ H → m ≠ .fail → EOk F m → (∀ tms s' vs H', K tms s' m → vs.length = tms.length → Holds F (pushes vs tms tmp) s' σ H' → Q vs H') → t σ H Q
def RS (t : TS) (N : Rn R) (Rt : Rr R) : Prop :=
  ∀ σ H D, Holds F tmp s σ H → m ≠ .fail → EOk F m → (∀ s' σ' H', N s' m → Holds F tmp s' σ' H' → D.nx σ' H') → (∀ t s' v σ' H', Rt t s' m → Holds F [(v, .own t)] s' σ' H' → D.rt v H') → t D σ H
end
section
variable {R : Type} {F : Fc} {tmp : Tmp} {s : State} {m : Res R} {K : Rs R} {N : Rn R} {Rt : Rr R}

/-! names, constants -/
theorem rd_var {i : Nat} {d : D} (h : s[i]? = some (some (.f d))) (k : K (.own (.f d)) s m) : RD F tmp s (tVar i) m K := fun σ H Q hh _ _ q => by
  obtain ⟨G, ω, h1⟩ := hh
  obtain ⟨v, e, o⟩ := h1.sl i _ h
  exact ⟨v, e, q _ _ v H k ⟨G, ω, h1.pushF o⟩⟩
/-- a slot as it lies -/
theorem rd_ali {i : Nat} {t : T} (h : s[i]? = some (some t)) (k : K (.ali i) s m) : RD F tmp s (tVar i) m K := fun σ H Q hh _ _ q => by
  obtain ⟨G, ω, h1⟩ := hh
  obtain ⟨v, e, o⟩ := h1.sl i _ h
  exact ⟨v, e, q _ _ v H k ⟨G, ω, { h1 with tm := ⟨e, h1.tm⟩ }⟩⟩
/-- an owned slot, frozen from here on -/
theorem rd_frz {i : Nat} {t : T} (h : s[i]? = some (some t)) (k : K (.own (.f t.er)) (s.set i (some (.f t.er))) m) : RD F tmp s (tVar i) m K := fun σ H Q hh _ _ q => by
  have h2 := hh.frzSlot h
  obtain ⟨G, ω, h1⟩ := h2
  have hi : i < s.length := (List.getElem?_eq_some_iff.mp h).1
  obtain ⟨v, e, o⟩ := h1.sl i (.f t.er) (by rw [List.getElem?_set_self hi])
  exact ⟨v, e, q _ _ v H k ⟨G, ω, h1.pushF o⟩⟩
def phiMv (n i : Nat) : Lab → Option Lab
  | 0 :: j :: x => if j = i then some (1 :: n :: x) else some (0 :: j :: x)
  | 1 :: j :: x => if j = n then none else some (1 :: j :: x)
  | l => some l
/-- an owned slot, moved out -/
theorem rd_mv {i : Nat} {t : T} (h : s[i]? = some (some t)) (k : K (.own t) (s.set i none) m) : RD F tmp s (tVar i) m K := fun σ H Q hh _ _ q => by
  obtain ⟨G, ω, h1⟩ := hh
  obtain ⟨v, e, o⟩ := h1.sl i _ h
  refine ⟨v, e, q _ _ v H k ⟨G, _, h1.rl (phiMv tmp.length i) _ σ _ (by simp [h1.len]) (fun j u e2 => ?_) ⟨Own.rl o fun x => by simp [phiMv], Tms.rl tmp (fun j x hj => ?_) h1.tm⟩ h1.pn⟩⟩
  · rw [List.getElem?_set] at e2
    by_cases hj : i = j
    · subst hj
      rw [if_pos rfl] at e2
      split at e2 <;> cases e2
    · rw [if_neg hj] at e2
      obtain ⟨v', a, b⟩ := h1.sl j u e2
      have hj' : ¬ j = i := fun z => hj z.symm
      exact ⟨v', a, Own.rl b fun x => by simp [phiMv, hj']⟩
  · have : ¬ j = tmp.length := by omega
    simp [phiMv, this]
theorem holds_push {σ : St} {H : Hp} {d : D} {v : V} (h : Holds F tmp s σ H) (r : ∀ G, Rep G d v) : Holds F ((v, .own (.f d)) :: tmp) s σ H :=
  let ⟨G, ω, h1⟩ := h
  ⟨G, ω, h1.pushF (r G)⟩
theorem rd_int {i : Int} (k : K (.own (.f (.int i))) s m) : RD F tmp s (tC (.int i)) m K := fun σ H Q hh _ _ q => q _ _ _ H k (holds_push hh fun _ => rfl)
theorem rd_bl {b : Bool} (k : K (.own (.f (.bl b))) s m) : RD F tmp s (tC (.bl b)) m K := fun σ H Q hh _ _ q => q _ _ _ H k (holds_push hh fun _ => rfl)
theorem rd_non (k : K (.own (.f .non)) s m) : RD F tmp s (tC .non) m K := fun σ H Q hh _ _ q => q _ _ _ H k (holds_push hh fun _ => rfl)
theorem rd_str {x : Str} {l : List Nat} (e : x = mkS l) (k : K (.own (.f (.str l))) s m) : RD F tmp s (tC (.str x)) m K := fun σ H Q hh _ _ q => q _ _ _ H k (holds_push hh fun _ => congrArg V.str e)

/-! blocks -/
theorem rs_seq {t u : TS} (h : RS F tmp s m t (fun s1 m1 => RS F tmp s1 m1 u N Rt) Rt) : RS F tmp s m (tSeq t u) N Rt := fun σ H D hh nf eo nx rt =>
  h σ H { D with nx := u D } hh nf eo (fun s' σ' H' hn h1 => hn σ' H' D h1 nf eo nx rt) rt
theorem rs_next (k : N s m) : RS F tmp s m tNext N Rt := fun σ H D hh _ _ nx _ => nx s σ H k hh
theorem rs_never {t : TS} (e : m = .fail) : RS F tmp s m t N Rt := fun σ H D hh nf _ _ _ => absurd e nf
/-- less is kept -/
theorem rs_sub {t : TS} {s' : State} (q : Sub s s') (h : RS F tmp s' m t N Rt) : RS F tmp s m t N Rt := fun σ H D hh => h σ H D (hh.sub q)
theorem rs_set {te : TE} {i : Nat} (h : RD F tmp s te m (fun tm s1 m1 => ∃ t, tm = .own t ∧ i < s1.length ∧ N (s1.set i (some t)) m1)) (na : noAli i tmp = true) (hp : F.pv i = none) : RS F tmp s m (tAsg te (gName i)) N Rt := fun σ H D hh nf eo nx rt =>
  h σ H _ hh nf eo fun tm s' v H' ⟨t, e, hl, hn⟩ h1 => by
    subst e
    exact nx _ _ _ hn (h1.store hl na hp)
theorem rs_drop {te : TE} (h : RD F tmp s te m (fun _ s1 m1 => N s1 m1)) : RS F tmp s m (tDrop te) N Rt := fun σ H D hh nf eo nx rt =>
  h σ H _ hh nf eo fun tm s' v H' hn h1 => nx _ _ _ hn h1.pop
theorem rs_ret {te : TE} (h : RD F tmp s te m (fun tm s1 m1 => ∃ t, tm = .own t ∧ Rt t s1 m1)) : RS F tmp s m (tRet te) N Rt := fun σ H D hh nf eo nx rt =>
  h σ H _ hh nf eo fun tm s' v H' ⟨t, e, hn⟩ h1 => by
    subst e
    exact rt _ _ _ σ _ hn h1.alone
theorem rs_retN (h : Rt (.f .non) s m) : RS F tmp s m tRetN N Rt := fun σ H D hh nf eo nx rt =>
  rt _ _ _ σ _ h (holds_push (d := .non) (v := .non) hh fun _ => rfl).alone
/-- an if; what follows is told twice -/
theorem rs_if {c : TT} {t u : TS} (h : RT F tmp s m c (fun b s1 m1 => ∃ ma mb, m1 = (if b = true then ma else mb) ∧ (b = true → RS F tmp s1 ma t N Rt) ∧ (b = false → RS F tmp s1 mb u N Rt))) : RS F tmp s m (tIfS c t u) N Rt := fun σ H D hh nf eo nx rt =>
  h σ H _ hh nf eo fun b s' H' ⟨ma, mb, e, ha, hb⟩ h1 => by
    cases b with
    | true => simp only [if_true] at e ⊢; subst e; exact ha rfl σ H' D h1 nf eo nx rt
    | false => simp only [Bool.false_eq_true, if_false] at e ⊢; subst e; exact hb rfl σ H' D h1 nf eo nx rt
/-- a part of its own: its mirror ends in what is bound behind it -/
theorem rs_bind {S : Type} {t : TS} {ma : Res S} {k : S → Res R} {N' : Rn S} {Rt' : Rr S} (e : m = rb ma k) (h : RS F tmp s ma t N' Rt')
    (hn : ∀ s' z, N' s' (.ok z) → N s' (k z)) (hr : ∀ t s' z, Rt' t s' (.ok z) → Rt t s' (k z)) (ne : ∀ s' m', N' s' m' → ∃ z, m' = .ok z) (re : ∀ t s' m', Rt' t s' m' → ∃ z, m' = .ok z) : RS F tmp s m t N Rt := fun σ H D hh nf eo nx rt => by
  subst e
  have nf' : ma ≠ .fail := fun z => nf (by rw [z]; rfl)
  refine h σ H D hh nf' (eo.of fun e he => by rw [he]; rfl) (fun s' σ' H' hk h1 => ?_) fun t s' v σ' H' hk h1 => ?_
  · obtain ⟨z, ez⟩ := ne _ _ hk
    rw [ez] at hk
    refine nx s' σ' H' ?_ h1
    have := hn s' z hk
    rwa [ez]
  · obtain ⟨z, ez⟩ := re _ _ _ hk
    rw [ez] at hk
    refine rt t s' v σ' H' ?_ h1
    have := hr t s' z hk
    rwa [ez]

/-! arguments -/
theorem ra_nil {K : List TM → State → Res R → Prop} (k : K [] s m) : RA F tmp s m tNil K := fun σ H Q hh _ _ q => q [] s [] H k rfl hh
theorem ra_cons {ta : TE} {tr : TA} {K : List TM → State → Res R → Prop} (h : RD F tmp s ta m (fun tm s1 m1 => ∀ v, RA F ((v, tm) :: tmp) s1 m1 tr (fun tms s2 m2 => K (tm :: tms) s2 m2))) : RA F tmp s m (tCons ta tr) K := fun σ H Q hh nf eo q =>
  h σ H _ hh nf eo fun tm s' v H' hk h1 => hk v σ H' _ h1 nf eo fun tms s2 vs H2 hk2 hl h2 => q (tm :: tms) s2 (v :: vs) H2 hk2 (by simp [hl]) h2
end
end VL

namespace VL
open PySem L2

/-! calls -/
def wAfter (G : Hp) (w : Addr → Option Lab) (H : Hp) (G' : Hp) (H' : Hp) : Prop :=
  Same G G' ∧ Same G' H' ∧ (∀ a o, G' a = some o → G a = some o ∨ H a = none ∨ (w a).isSome = true) ∧ (∀ a o, H a = some o → w a = none → H' a = some o) ∧ (∀ a o, H a = some o → ∃ o', H' a = some o')
def PostOk (G : Hp) (w : Addr → Option Lab) (H : Hp) (r : T) (outs : List (Option T)) (v : V) (vs : List V) (H' : Hp) : Prop :=
  ∃ G' w', wAfter G w H G' H' ∧ (∀ a p, w' a = some p → G' a = none ∧ (∃ o, H' a = some o) ∧ (H a = none ∨ (w a).isSome = true)) ∧
    Own G' H' w' [2] r v ∧ ∀ k t, outs[k]? = some (some t) → ∃ u, vs[k]? = some u ∧ Own G' H' w' [0, k] t u
def ErrQ (G : Hp) (w : Addr → Option Lab) (H : Hp) (e : Ex) (od : Option Addr) (H' : Hp) : Prop :=
  ∃ G', wAfter G w H G' H' ∧ (match e.a with | none => od = none | some d => ∃ dx v, od = some dx ∧ H dx = none ∧ G' dx = some (.xd [("at", v)]) ∧ Rep G' d v)
def spOf {A R : Type} (ec : Nat → Addr) (ea : A → List T) (mir : A → Res R) (er : R → T) (eo : R → List (Option T)) : Sp := fun vs H Q E =>
  ∃ (a : A) (G : Hp) (w : Addr → Option Lab), Same G H ∧ (∀ x p, w x = some p → G x = none ∧ ∃ o, H x = some o) ∧ vs.length = (ea a).length ∧ (∀ k t, (ea a)[k]? = some t → ∃ u, vs[k]? = some u ∧ Own G H w [0, k] t u) ∧
    mir a ≠ .fail ∧ (∀ r v H', mir a = .ok r → PostOk G w H (er r) (eo r) v vs H' → Q v H') ∧ (∀ e od H', mir a = .err e → ErrQ G w H e od H' → E (.ref (ec e.k)) od H')

def treeAt (s : State) : TM → Option T
  | .own t => some t
  | .ali i => match s[i]? with | some x => x | none => none
def putOuts : State → List TM → List (Option T) → State
  | s, .ali i :: r, o :: q => putOuts (s.set i o) r q
  | s, .ali i :: r, [] => putOuts (s.set i none) r []
  | s, .own _ :: r, q => putOuts s r q.tail
  | s, [], _ => s
def aIdx (i : Nat) : List TM → Option Nat
  | [] => none
  | .ali j :: r => if j = i then some 0 else (aIdx i r).map (· + 1)
  | .own _ :: r => (aIdx i r).map (· + 1)
def aliNd : List TM → Bool
  | [] => true
  | .ali j :: r => (aIdx j r).isNone && aliNd r
  | .own _ :: r => aliNd r
theorem aIdx_get {i : Nat} : ∀ {tms : List TM} {k : Nat}, aIdx i tms = some k → tms[k]? = some (.ali i)
  | [], _, h => by simp [aIdx] at h
  | .ali j :: r, k, h => by
    unfold aIdx at h
    split at h
    · rename_i e; subst e; cases h; rfl
    · cases e : aIdx i r with
      | none => rw [e] at h; cases h
      | some k' => rw [e] at h; cases h; simpa using aIdx_get e
  | .own _ :: r, k, h => by
    unfold aIdx at h
    cases e : aIdx i r with
    | none => rw [e] at h; cases h
    | some k' => rw [e] at h; cases h; simpa using aIdx_get e
theorem aIdx_of {i : Nat} : ∀ {tms : List TM} {k : Nat}, aliNd tms = true → tms[k]? = some (.ali i) → aIdx i tms = some k
  | [], _, _, h => by simp at h
  | .ali j :: r, 0, nd, h => by simp at h; subst h; simp [aIdx]
  | .ali j :: r, k + 1, nd, h => by
    simp only [aliNd, Bool.and_eq_true] at nd
    have e := aIdx_of (k := k) nd.2 (by simpa using h)
    have : ¬ j = i := fun z => by subst z; rw [e] at nd; simp at nd
    simp [aIdx, this, e]
  | .own _ :: r, 0, nd, h => by simp at h
  | .own _ :: r, k + 1, nd, h => by
    have e := aIdx_of (tms := r) (k := k) (by simpa [aliNd] using nd) (by simpa using h)
    simp [aIdx, e]
theorem putOuts_len : ∀ (tms : List TM) (s : State) (q : List (Option T)), (putOuts s tms q).length = s.length
  | [], s, _ => by cases s <;> rfl
  | .ali i :: r, s, [] => by rw [putOuts, putOuts_len r]; simp
  | .ali i :: r, s, o :: q => by rw [putOuts, putOuts_len r]; simp
  | .own _ :: r, s, q => by rw [putOuts, putOuts_len r]
theorem putOuts_none : ∀ (tms : List TM) (s : State) (q : List (Option T)) (i : Nat), aIdx i tms = none → (putOuts s tms q)[i]? = s[i]?
  | [], s, _, i, _ => by cases s <;> rfl
  | .ali j :: r, s, q, i, h => by
    unfold aIdx at h
    split at h
    · cases h
    · rename_i hj
      have h' : aIdx i r = none := by simpa using h
      cases q with
      | nil => rw [putOuts, putOuts_none r _ _ i h', List.getElem?_set_ne hj]
      | cons o q => rw [putOuts, putOuts_none r _ _ i h', List.getElem?_set_ne hj]
  | .own _ :: r, s, q, i, h => by
    have h' : aIdx i r = none := by simpa [aIdx] using h
    rw [putOuts, putOuts_none r _ _ i h']
theorem putOuts_some : ∀ (tms : List TM) (s : State) (q : List (Option T)) (i k : Nat) (t : T), aliNd tms = true → aIdx i tms = some k → (putOuts s tms q)[i]? = some (some t) → q[k]? = some (some t)
  | [], s, _, i, k, t, _, h, _ => by simp [aIdx] at h
  | .ali j :: r, s, q, i, k, t, nd, h, e => by
    simp only [aliNd, Bool.and_eq_true] at nd
    unfold aIdx at h
    split at h
    · rename_i hj
      subst hj
      cases h
      have hn : aIdx j r = none := by simpa using nd.1
      cases q with
      | nil =>
        rw [putOuts, putOuts_none r _ _ j hn, List.getElem?_set] at e
        simp at e
      | cons o q =>
        rw [putOuts, putOuts_none r _ _ j hn, List.getElem?_set] at e
        simp at e
        simpa using e.2
    · cases e2 : aIdx i r with
      | none => rw [e2] at h; cases h
      | some k' =>
        rw [e2] at h; cases h
        cases q with
        | nil =>
          rw [putOuts] at e
          have := putOuts_some r _ _ i k' t nd.2 e2 e
          simp at this
        | cons o q =>
          rw [putOuts] at e
          have := putOuts_some r _ _ i k' t nd.2 e2 e
          simpa using this
  | .own _ :: r, s, q, i, k, t, nd, h, e => by
    unfold aIdx at h
    cases e2 : aIdx i r with
    | none => rw [e2] at h; cases h
    | some k' =>
      rw [e2] at h; cases h
      rw [putOuts] at e
      have := putOuts_some r _ _ i k' t (by simpa [aliNd] using nd) e2 e
      cases q with
      | nil => simp at this
      | cons o q => simpa using this
/-- the arguments among the temporaries -/
theorem Tms.args {G H : Hp} {ω : Addr → Option Lab} {σ : St} : ∀ (vs : List V) (tms : List TM) (tmp : Tmp), vs.length = tms.length → Tms G H ω σ (pushes vs tms tmp) →
    Tms G H ω σ tmp ∧ ∀ k tm, tms[k]? = some tm → ∃ v, vs[k]? = some v ∧ TmOk G H ω σ [1, tmp.length + k] tm v
  | [], [], tmp, _, h => ⟨h, fun k tm e => by simp at e⟩
  | v :: vs, tm :: tms, tmp, hl, h => by
    obtain ⟨⟨a, b⟩, c⟩ := Tms.args vs tms ((v, tm) :: tmp) (by simpa using hl) h
    refine ⟨b, fun k u e => ?_⟩
    cases k with
    | zero => simp at e; subst e; exact ⟨v, rfl, a⟩
    | succ k =>
      obtain ⟨w, e1, e2⟩ := c k u (by simpa using e)
      refine ⟨w, by simpa using e1, ?_⟩
      rw [List.length_cons] at e2
      rwa [show tmp.length + (k + 1) = tmp.length + 1 + k by omega]
  | [], _ :: _, _, hl, _ => by simp at hl
  | _ :: _, [], _, hl, _ => by simp at hl
def psi (n : Nat) (tms : List TM) : Lab → Option Lab
  | 1 :: j :: x => if n ≤ j ∧ j < n + tms.length then some (0 :: (j - n) :: x) else none
  | 0 :: i :: x => (aIdx i tms).map fun k => 0 :: k :: x
  | _ => none
def chi (n : Nat) (tms : List TM) : Lab → Option Lab
  | 2 :: x => some (1 :: n :: x)
  | 0 :: k :: x => match tms[k]? with | some (.ali i) => some (0 :: i :: x) | _ => none
  | _ => none
def wBack (ω ω' : Addr → Option Lab) (n : Nat) (tms : List TM) : Addr → Option Lab := fun a => match ω a with
  | some lab => if (psi n tms lab).isSome = true then (ω' a).bind (chi n tms) else some lab
  | none => (ω' a).bind (chi n tms)
theorem wAfter.errP {F : Fc} {G H H' G' : Hp} {ω wc : Addr → Option Lab} {tmp : Tmp} {s : State} {σ : St} (h : Hd F G ω tmp s σ H) (hc : ∀ a, (wc a).isSome = true → (ω a).isSome = true) (p : wAfter G wc H G' H') :
    Same F.G0 G' ∧ Same G' H' ∧ (∀ a o, G' a = some o → F.G0 a = some o ∨ F.H0 a = none ∨ (F.w0 a).isSome = true) ∧ (∀ a o, F.H0 a = some o → F.w0 a = none → H' a = some o) ∧ (∀ a o, F.H0 a = some o → ∃ o', H' a = some o') := by
  obtain ⟨p1, p2, p3, p4, p5⟩ := p
  refine ⟨h.g0.trans p1, p2, fun a o e => ?_, fun a o e w => ?_, fun a o e => ?_⟩
  · rcases p3 a o e with q | q | q
    · exact h.gn a o q
    · exact .inr (.inl (h.new q))
    · obtain ⟨lab, hl⟩ := Option.isSome_iff_exists.mp (hc a q)
      exact .inr (h.wg a lab hl).2.2
  · refine p4 a o (h.fr a o e w) ?_
    cases q : wc a with
    | none => rfl
    | some lab =>
      obtain ⟨lab', hl⟩ := Option.isSome_iff_exists.mp (hc a (by rw [q]; rfl))
      rcases (h.wg a lab' hl).2.2 with z | z
      · rw [e] at z; cases z
      · rw [w] at z; cases z
  · obtain ⟨o', e'⟩ := h.ex a o e
    exact p5 a o' e'
theorem rd_call {A R R' : Type} {ec : Nat → Addr} {ea : A → List T} {mir : A → Res R'} {er : R' → T} {eo : R' → List (Option T)} {F : Fc} {tmp : Tmp} {s : State} {m : Res R} {K : Rs R} {t : TA} {E : XK} (hec : F.ec = ec) (hE : F.E = E)
    (h : RA F tmp s m t (fun tms s1 m1 => ∃ (a : A) (k : R' → Res R), m1 = rb (mir a) k ∧ tms.map (treeAt s1) = (ea a).map some ∧ aliNd tms = true ∧ ∀ r, K (.own (er r)) (putOuts s1 tms (eo r)) (k r))) :
    RD F tmp s (tCall (spOf ec ea mir er eo) [] E t) m K := fun σ H Q hh nf eo' q => by
  refine h σ H _ hh nf eo' fun tms s1 vs H1 ⟨a, k, em, ht, nd, hk⟩ hl h1 => ?_
  obtain ⟨G, ω, h1⟩ := h1
  obtain ⟨ht0, hargs⟩ := Tms.args vs tms tmp hl h1.tm
  have hlen : tms.length = (ea a).length := by simpa using congrArg List.length ht
  rw [List.append_nil]
  have hwc : ∀ x, ((rl ω (psi tmp.length tms)) x).isSome = true → (ω x).isSome = true := fun x hx => by
    obtain ⟨lab, e⟩ := Option.isSome_iff_exists.mp hx
    obtain ⟨p, e1, _⟩ := rl_some e
    rw [e1]; rfl
  have cases := rb_cases (by rw [← em]; exact nf : rb (mir a) k ≠ .fail)
  refine ⟨a, G, rl ω (psi tmp.length tms), h1.gH, fun x p e => ?_, by rw [hl, hlen], fun j u e => ?_, fun z => ?_, fun r v H' er' po => ?_, fun e od H' ee po => ?_⟩
  · obtain ⟨p', e1, _⟩ := rl_some e
    exact ⟨(h1.wg x p' e1).1, (h1.wg x p' e1).2.1⟩
  · have hj : j < tms.length := by rw [hlen]; exact (List.getElem?_eq_some_iff.mp e).1
    have e2 : (tms.map (treeAt s1))[j]? = some (some u) := by rw [ht, List.getElem?_map, e]; rfl
    rw [List.getElem?_map] at e2
    cases e3 : tms[j]? with
    | none => rw [e3] at e2; cases e2
    | some tm =>
      rw [e3] at e2
      have e4 : treeAt s1 tm = some u := by simpa using e2
      obtain ⟨v, ev, ok⟩ := hargs j tm e3
      refine ⟨v, ev, ?_⟩
      cases tm with
      | own t' =>
        cases e4
        exact Own.rl ok fun x => by simp [psi, hj]
      | ali i =>
        have es : s1[i]? = some (some u) := by
          cases e5 : s1[i]? with
          | none => simp [treeAt, e5] at e4
          | some x => simp [treeAt, e5] at e4; rw [e4]
        obtain ⟨v', a1, a2⟩ := h1.sl i u es
        have : v' = v := by
          have ok' : σ[i]? = some (some v) := ok
          rw [ok'] at a1; cases a1; rfl
        subst this
        exact Own.rl a2 fun x => by simp [psi, aIdx_of nd e3]
  · rcases cases with ⟨b, e1, _⟩ | ⟨b, e1, _⟩ <;> (rw [z] at e1; cases e1)
  · have em' : m = k r := by rw [em, er']; rfl
    obtain ⟨G', ω', pa, pw, pr, pouts⟩ := po
    obtain ⟨f1, f2, f3, f4, f5⟩ := wAfter.errP h1 hwc pa
    obtain ⟨p1, p2, p3, p4, p5⟩ := pa
    -- who was lent
    have lent : ∀ x lab, ω x = some lab → (psi tmp.length tms lab).isSome = false → ω' x = none := fun x lab e1 e2 => by
      cases e3 : ω' x with
      | none => rfl
      | some l2 =>
        rcases (pw x l2 e3).2.2 with z | z
        · obtain ⟨o, ho⟩ := (h1.wg x lab e1).2.1
          rw [ho] at z; cases z
        · unfold rl at z
          rw [e1] at z
          rw [show ((some lab).bind (psi tmp.length tms)) = psi tmp.length tms lab from rfl, e2] at z
          cases z
    have back : ∀ x l2 l3, ω' x = some l2 → chi tmp.length tms l2 = some l3 → wBack ω ω' tmp.length tms x = some l3 := fun x l2 l3 e1 e2 => by
      unfold wBack
      cases e3 : ω x with
      | none => simp only [e1]; exact e2
      | some lab =>
        cases e4 : (psi tmp.length tms lab).isSome with
        | true => simp only [e4, if_true, e1]; exact e2
        | false =>
          rw [lent x lab e3 e4] at e1
          cases e1
    have kept : ∀ x lab, ω x = some lab → psi tmp.length tms lab = none → H' x = H1 x ∧ wBack ω ω' tmp.length tms x = some lab := fun x lab e1 e2 => by
      obtain ⟨o, ho⟩ := (h1.wg x lab e1).2.1
      refine ⟨?_, ?_⟩
      · rw [ho]
        exact p4 x o ho (by unfold rl; rw [e1]; exact e2)
      · unfold wBack
        rw [e1]
        simp [e2]
    refine q (.own (er r)) (putOuts s1 tms (eo r)) v H' (by rw [em']; exact hk r) ⟨G', wBack ω ω' tmp.length tms, f1, f2, f3, f4, f5, fun x p e => ?_, ?_, fun i u e => ?_, ⟨?_, ?_⟩, h1.pn⟩
    · unfold wBack at e
      have fromNew : (ω' x).bind (chi tmp.length tms) = some p → G' x = none ∧ (∃ o, H' x = some o) ∧ (F.H0 x = none ∨ (F.w0 x).isSome = true) := fun e => by
        cases e3 : ω' x with
        | none => rw [e3] at e; cases e
        | some l2 =>
          obtain ⟨w1, w2, w3⟩ := pw x l2 e3
          refine ⟨w1, w2, ?_⟩
          rcases w3 with z | z
          · exact .inl (h1.new z)
          · obtain ⟨lab, hl2⟩ := Option.isSome_iff_exists.mp (hwc x z)
            exact (h1.wg x lab hl2).2.2
      split at e
      · rename_i lab e1
        split at e
        · exact fromNew e
        · rename_i hn
          have hn' : psi tmp.length tms lab = none := by simpa using hn
          cases e
          obtain ⟨g1, ⟨o, ho⟩, g3⟩ := h1.wg x _ e1
          refine ⟨?_, ⟨o, ?_⟩, g3⟩
          · cases e5 : G' x with
            | none => rfl
            | some o2 =>
              rcases p3 x o2 e5 with z | z | z
              · rw [g1] at z; cases z
              · rw [ho] at z; cases z
              · unfold rl at z
                rw [e1] at z
                rw [show ((some p).bind (psi tmp.length tms)) = psi tmp.length tms p from rfl, hn'] at z
                cases z
          · rw [(kept x p e1 hn').1]; exact ho
      · exact fromNew e
    · rw [putOuts_len]; exact h1.len
    · cases e1 : aIdx i tms with
      | none =>
        rw [putOuts_none tms s1 _ i e1] at e
        obtain ⟨v', a1, a2⟩ := h1.sl i u e
        exact ⟨v', a1, Own.move p1 _ _ u v' (fun x y w => kept x _ w (by simp [psi, e1])) a2⟩
      | some j =>
        obtain ⟨w, w1, w2⟩ := pouts j u (putOuts_some tms s1 _ i j u nd e1 e)
        obtain ⟨v', a1, a2⟩ := hargs j _ (aIdx_get e1)
        rw [w1] at a1
        cases a1
        exact ⟨w, a2, Own.move (Same.refl _) _ _ u w (fun x y z => ⟨rfl, back x _ _ z (by simp [chi, aIdx_get e1])⟩) w2⟩
    · exact Own.move (Same.refl _) _ _ _ v (fun x y z => ⟨rfl, back x _ _ z (by simp [chi])⟩) pr
    · exact Tms.move p1 tmp (fun j x y hj w => kept x _ w (by
        have : ¬ (tmp.length ≤ j ∧ j < tmp.length + tms.length) := by omega
        simp [psi, this])) ht0
  · have em' : m = .err e := by rw [em, ee]; rfl
    obtain ⟨G', pa, pe⟩ := po
    obtain ⟨f1, f2, f3, f4, f5⟩ := wAfter.errP h1 hwc pa
    rw [← hE, ← hec]
    refine eo' e em' od H' ⟨G', f1, f2, f3, f4, f5, ?_⟩
    cases e6 : e.a with
    | none => rw [e6] at pe; exact pe
    | some d =>
      rw [e6] at pe
      obtain ⟨dx, v, b1, b2, b3, b4⟩ := pe
      exact ⟨dx, v, b1, h1.new b2, b3, b4⟩
end VL

namespace VL
open PySem L2

/-! an owned object is written -/
section
variable {F : Fc} {G H H' : Hp} {ω : Addr → Option Lab} {tmp : Tmp} {s : State} {σ : St} {v : V} {t : T} {d : D} {a : Addr} {p : Lab}
theorem Hd.wr (h : Hd F G ω tmp s σ H) (hw : ω a = some p) (o' : HO) {s' : State} {tmp' : Tmp} (hl : s'.length = s.length)
    (hs : ∀ i t, s'[i]? = some (some t) → ∃ v, σ[i]? = some (some v) ∧ Own G (upd H a o') ω [0, i] t v) (ht : Tms G (upd H a o') ω σ tmp') : Hd F G ω tmp' s' σ (upd H a o') := by
  obtain ⟨g1, ⟨o, ho⟩, g3⟩ := h.wg a p hw
  refine ⟨h.g0, fun b u e => ?_, h.gn, fun b u e w => ?_, fun b u e => ?_, fun b q e => ?_, h.len.trans hl.symm, hs, ht, h.pn⟩
  · have : b ≠ a := fun z => by subst z; rw [g1] at e; cases e
    rw [upd_ne this]; exact h.gH b u e
  · have : b ≠ a := fun z => by
      subst z
      rcases g3 with z | z
      · rw [e] at z; cases z
      · rw [w] at z; cases z
    rw [upd_ne this]; exact h.fr b u e w
  · by_cases hb : b = a
    · subst hb; exact ⟨o', upd_same⟩
    · rw [upd_ne hb]; exact h.ex b u e
  · obtain ⟨q1, ⟨u, q2⟩, q3⟩ := h.wg b q e
    refine ⟨q1, ?_, q3⟩
    by_cases hb : b = a
    · subst hb; exact ⟨o', upd_same⟩
    · exact ⟨u, by rw [upd_ne hb]; exact q2⟩
theorem Own.wrO {o' : HO} {q : Lab} (hw : ω a = some p) (n : pre q p = false) (h : Own G H ω q t v) : Own G (upd H a o') ω q t v :=
  Own.move (Same.refl _) q q t v (fun b x e => ⟨upd_ne (fun z => by subst z; rw [hw] at e; cases e; rw [pre_app] at n; cases n), e⟩) h
theorem Tms.wrO {o' : HO} (hw : ω a = some p) (tmp : Tmp) (n : ∀ j, j < tmp.length → pre [1, j] p = false) (h : Tms G H ω σ tmp) : Tms G (upd H a o') ω σ tmp :=
  Tms.move (Same.refl _) tmp (fun j b x hj e => ⟨upd_ne (fun z => by subst z; rw [hw] at e; cases e; have := n j hj; rw [pre_app] at this; cases this), e⟩) h
/-- an owned list in slot i -/
theorem Holds.wrSlot (h : Holds F tmp s σ H) {i : Nat} {ds : List D} (hi : s[i]? = some (some (.l ds))) :
    ∃ a vs, σ[i]? = some (some (.ref a)) ∧ H a = some (.lst vs) ∧ vs.length = ds.length ∧ ds.length ≤ sizeLine ∧ (∀ (k : Nat) (d : D), ds[k]? = some d → ∃ v, vs[k]? = some v ∧ ∀ {x : V}, x = v → Holds F ((x, .own (.f d)) :: tmp) s σ H) ∧
      ∀ (ds' : List D) (vs' : List V), ds'.length ≤ sizeLine → (∀ G, Same F.G0 G → Same G H → Reps G ds vs → (∀ x r, tmp = x :: r → ∀ d, x.2 = .own (.f d) → Rep G d x.1) → Reps G ds' vs') → Holds F tmp (s.set i (some (.l ds'))) σ (upd H a (.lst vs')) := by
  obtain ⟨G, ω, h⟩ := h
  obtain ⟨v, e1, a, vs, rfl, ha, hw, z, r⟩ := h.sl i _ hi
  refine ⟨a, vs, e1, ha, r.length.symm, z, fun k d e => ?_, fun ds' vs' hz hr => ⟨G, ω, h.wr hw (.lst vs') (by simp) (fun j u e => ?_) (Tms.wrO hw tmp (fun j hj => by simp [pre]) h.tm)⟩⟩
  · obtain ⟨v, e2, e3⟩ := r.get e
    exact ⟨v, e2, fun {x} ex => ⟨G, ω, h.pushF (by rw [ex]; exact e3)⟩⟩
  · have hil : i < s.length := (List.getElem?_eq_some_iff.mp hi).1
    by_cases hj : i = j
    · subst hj
      rw [List.getElem?_set_self hil] at e
      cases e
      refine ⟨_, e1, a, vs', rfl, upd_same, hw, hz, hr G h.g0 h.gH r fun x r2 et d ed => ?_⟩
      have ht := h.tm
      rw [et] at ht
      have ht1 := ht.1
      rw [ed] at ht1
      exact ht1
    · rw [List.getElem?_set_ne hj] at e
      obtain ⟨v', b1, b2⟩ := h.sl j u e
      exact ⟨v', b1, Own.wrO hw (by simp [pre]; exact fun z => hj z.symm) b2⟩
/-- an owned list among the temporaries, with what comes to it on top -/
theorem Holds.wrTmp {D' : Addr} {acc : List D} {y : V} (h : Holds F ((y, .own (.f d)) :: (.ref D', .own (.l acc)) :: tmp) s σ H) (hz : acc.length < sizeLine) :
    ∃ vs, H D' = some (.lst vs) ∧ vs.length = acc.length ∧ Holds F ((.ref D', .own (.l (acc ++ [d]))) :: tmp) s σ (upd H D' (.lst (vs ++ [y]))) := by
  obtain ⟨G, ω, h⟩ := h
  obtain ⟨hy, ⟨a, vs, e, ha, hw, z, r⟩, ht⟩ := h.tm
  cases e
  refine ⟨vs, ha, r.length.symm, G, ω, h.wr hw _ rfl (fun j u e => ?_) ⟨⟨D', vs ++ [y], rfl, upd_same, hw, by simp; omega, r.append ⟨y, [], rfl, hy, rfl⟩⟩, Tms.wrO hw tmp (fun j hj => ?_) ht⟩⟩
  · obtain ⟨v', b1, b2⟩ := h.sl j u e
    exact ⟨v', b1, Own.wrO hw (by simp [pre]) b2⟩
  · have : ¬ j = tmp.length := by omega
    simp [pre, this]
end

/-! loops -/
inductive Fl (Z R : Type) where
  | nx (z : Z) | rt (r : R)
def forL {Z R : Type} : List D → Z → (Z → D → Res (Fl Z R)) → Res (Fl Z R)
  | [], z, _ => .ok (.nx z)
  | d :: r, z, f => rb (f z d) fun o => match o with | .nx z' => forL r z' f | .rt x => .ok (.rt x)
def forN {Z : Type} : List D → Z → (Z → D → Res Z) → Res Z
  | [], z, _ => .ok z
  | d :: r, z, f => rb (f z d) fun z' => forN r z' f
def whileF {Z R : Type} : Nat → Z → (Z → Res Bool) → (Z → Res (Fl Z R)) → Res (Fl Z R)
  | 0, _, _, _ => .fail
  | n + 1, z, c, b => rb (c z) fun t => if t = true then rb (b z) fun o => match o with | .nx z' => whileF n z' c b | .rt x => .ok (.rt x) else .ok (.nx z)
def whileN {Z : Type} : Nat → Z → (Z → Res Bool) → (Z → Res Z) → Res Z
  | 0, _, _, _ => .fail
  | n + 1, z, c, b => rb (c z) fun t => if t = true then rb (b z) fun z' => whileN n z' c b else .ok z
/-- a comprehension that changes what stands outside -/
def fmS {Z : Type} : List D → Z → (Z → D → Res (Option D × Z)) → Res (List D × Z)
  | [], z, _ => .ok ([], z)
  | d :: r, z, f => rb (f z d) fun o => rb (fmS r o.2 f) fun q => .ok (match o.1 with | some y => y :: q.1 | none => q.1, q.2)
def fmR : List D → (D → Res (Option D)) → Res (List D)
  | [], _ => .ok []
  | d :: r, f => rb (f d) fun o => rb (fmR r f) fun q => .ok (match o with | some y => y :: q | none => q)
structure ItOk (F : Fc) (tmp0 tmp : Tmp) (P : State → Prop) (pb : State → State) (J : It) (ds : List D) : Prop where
  bk : ∀ (pre : Tmp) s σ H, P s → Holds F (pre ++ tmp) s σ H → Holds F (pre ++ tmp0) (pb s) σ H
  sz : ds.length ≤ sizeLine
  go : ∀ s σ H i, P s → Holds F tmp s σ H → i < ds.length → J.go i H
  stop : ∀ s σ H, P s → Holds F tmp s σ H → J.stop ds.length H
  yld : ∀ (pre : Tmp) s σ H (i : Nat) (d : D) x H', P s → Holds F (pre ++ tmp) s σ H → ds[i]? = some d → J.yld i H x H' → Holds F ((x, .own (.f d)) :: (pre ++ tmp)) s σ H'
section
variable {R : Type} (F : Fc) (tmp : Tmp) (s : State) (m : Res R)
def RI (wi : TI) (K : Tmp → (State → Prop) → (State → State) → List D → State → Res R → Prop) : Prop :=
  ∀ σ H Q, Holds F tmp s σ H → m ≠ .fail → EOk F m → (∀ ex P pb ds s' J H', K ex P pb ds s' m → ItOk F tmp (ex ++ tmp) P pb J ds → Holds F (ex ++ tmp) s' σ H' → Q J H') → wi σ H Q
def RG (is : List Nat) (g : TG) (d : D) (K : State → Res R → Prop) : Prop :=
  ∀ σ H v Q, Holds F ((v, .own (.f d)) :: tmp) s σ H → m ≠ .fail → EOk F m → (∀ s' σ' H', K s' m → Holds F tmp s' σ' H' → (∀ j, j ∉ is → σ'[j]? = σ[j]?) → σ'.length = σ.length → Q σ' H') → g v σ H Q
end
theorem Holds.popMany {F : Fc} {s : State} {σ : St} {H : Hp} {tmp : Tmp} : ∀ (ex : Tmp), Holds F (ex ++ tmp) s σ H → Holds F tmp s σ H
  | [], h => h
  | _ :: r, h => Holds.popMany r h.pop
section
variable {R : Type} {F : Fc} {tmp : Tmp} {s : State} {m : Res R} {K : Rs R} {N : Rn R} {Rt : Rr R}
theorem rs_for {Z R' : Type} {wi : TI} {g : TG} {tb : TS} (is : List Nat) (h : RI F tmp s m wi (fun ex P pb ds s1 m1 => ∃ (S : Z → State) (z0 : Z) (f : Z → D → Res (Fl Z R')) (k : Fl Z R' → Res R),
      m1 = rb (forL ds z0 f) k ∧ Sub s1 (S z0) ∧ (∀ z, P (S z)) ∧
      (∀ z d, RG F (ex ++ tmp) (S z) (f z d) is g d (fun s2 m2 => RS F (ex ++ tmp) s2 m2 tb (fun s3 m3 => ∃ z', m3 = .ok (.nx z') ∧ Sub s3 (S z')) (fun t s3 m3 => ∃ r, m3 = .ok (.rt r) ∧ Rt t s3 (k (.rt r))))) ∧
      ∀ z, N (pb (S z)) (k (.nx z)))) : RS F tmp s m (tFor wi g tb) N Rt := fun σ H De hh nf eo nx rt => by
  refine h σ H _ hh nf eo fun ex P pb ds s1 J H1 ⟨S, z0, f, k, em, sb, hP, body, fin⟩ it h1 => ?_
  refine ⟨fun i n σ' H' => ∃ z, i + n = ds.length ∧ Holds F (ex ++ tmp) (S z) σ' H' ∧ rb (forL (ds.drop i) z f) k = m, ⟨ds.length, z0, by simp, h1.sub sb, by rw [List.drop_zero]; exact em.symm⟩, ?_⟩
  rintro i n σ' H' ⟨z, hin, hz, ez⟩
  cases n with
  | zero =>
    have hi : i = ds.length := by omega
    subst hi
    refine .inl ⟨it.stop _ _ _ (hP z) hz, ?_⟩
    rw [List.drop_length] at ez
    refine nx (pb (S z)) σ' H' ?_ (it.bk [] _ _ _ (hP z) hz)
    rw [← ez]
    exact fin z
  | succ n =>
    have hi : i < ds.length := by omega
    refine .inr ⟨it.go _ _ _ i (hP z) hz hi, _, fun σ2 H2 w => ⟨n, by omega, w⟩, fun x H2 y => ?_⟩
    have hd : ds[i]? = some ds[i] := List.getElem?_eq_getElem hi
    have h2 := it.yld [] _ _ _ i _ x H2 (hP z) hz hd y
    rw [List.drop_eq_getElem_cons hi] at ez
    have ez' : rb (rb (f z ds[i]) fun o => match o with | .nx z' => forL (ds.drop (i + 1)) z' f | .rt x => .ok (.rt x)) k = m := ez
    have nf' : f z ds[i] ≠ .fail := fun q => nf (by rw [← ez', q]; rfl)
    have eo' : EOk F (f z ds[i]) := eo.of fun e he => by rw [← ez', he]; rfl
    refine body z ds[i] σ' H2 x _ h2 nf' eo' fun s3 σ3 H3 hb h3 _ _ => ?_
    refine hb σ3 H3 _ h3 nf' eo' (fun s4 σ4 H4 ⟨z', e1, q⟩ h4 => ?_) fun t s4 v σ4 H4 ⟨r, e1, q⟩ h4 => ?_
    · refine ⟨z', by omega, h4.sub q, ?_⟩
      rw [← ez', e1]; rfl
    · refine rt t s4 v σ4 H4 ?_ h4
      have : m = k (.rt r) := by rw [← ez', e1]; rfl
      rw [this]; exact q
theorem rs_forN {Z : Type} {wi : TI} {g : TG} {tb : TS} (is : List Nat) (h : RI F tmp s m wi (fun ex P pb ds s1 m1 => ∃ (S : Z → State) (z0 : Z) (f : Z → D → Res Z) (k : Z → Res R),
      m1 = rb (forN ds z0 f) k ∧ Sub s1 (S z0) ∧ (∀ z, P (S z)) ∧
      (∀ z d, RG F (ex ++ tmp) (S z) (f z d) is g d (fun s2 m2 => RS F (ex ++ tmp) s2 m2 tb (fun s3 m3 => ∃ z', m3 = .ok z' ∧ Sub s3 (S z')) (fun t s3 m3 => False))) ∧
      ∀ z, N (pb (S z)) (k z))) : RS F tmp s m (tFor wi g tb) N Rt := fun σ H De hh nf eo nx rt => by
  refine h σ H _ hh nf eo fun ex P pb ds s1 J H1 ⟨S, z0, f, k, em, sb, hP, body, fin⟩ it h1 => ?_
  refine ⟨fun i n σ' H' => ∃ z, i + n = ds.length ∧ Holds F (ex ++ tmp) (S z) σ' H' ∧ rb (forN (ds.drop i) z f) k = m, ⟨ds.length, z0, by simp, h1.sub sb, by rw [List.drop_zero]; exact em.symm⟩, ?_⟩
  rintro i n σ' H' ⟨z, hin, hz, ez⟩
  cases n with
  | zero =>
    have hi : i = ds.length := by omega
    subst hi
    refine .inl ⟨it.stop _ _ _ (hP z) hz, ?_⟩
    rw [List.drop_length] at ez
    refine nx (pb (S z)) σ' H' ?_ (it.bk [] _ _ _ (hP z) hz)
    rw [← ez]
    exact fin z
  | succ n =>
    have hi : i < ds.length := by omega
    refine .inr ⟨it.go _ _ _ i (hP z) hz hi, _, fun σ2 H2 w => ⟨n, by omega, w⟩, fun x H2 y => ?_⟩
    have hd : ds[i]? = some ds[i] := List.getElem?_eq_getElem hi
    have h2 := it.yld [] _ _ _ i _ x H2 (hP z) hz hd y
    rw [List.drop_eq_getElem_cons hi] at ez
    have ez' : rb (rb (f z ds[i]) fun z' => forN (ds.drop (i + 1)) z' f) k = m := ez
    have nf' : f z ds[i] ≠ .fail := fun q => nf (by rw [← ez', q]; rfl)
    have eo' : EOk F (f z ds[i]) := eo.of fun e he => by rw [← ez', he]; rfl
    refine body z ds[i] σ' H2 x _ h2 nf' eo' fun s3 σ3 H3 hb h3 _ _ => ?_
    refine hb σ3 H3 _ h3 nf' eo' (fun s4 σ4 H4 ⟨z', e1, q⟩ h4 => ?_) fun t s4 v σ4 H4 q h4 => q.elim
    refine ⟨z', by omega, h4.sub q, ?_⟩
    rw [← ez', e1]; rfl
theorem rs_while {Z R' : Type} {c : TT} {tb : TS} (n : Nat) (S : Z → State) (z0 : Z) (fc : Z → Res Bool) (f : Z → Res (Fl Z R')) (k : Fl Z R' → Res R) (em : m = rb (whileF n z0 fc f) k) (sb : Sub s (S z0))
    (hc : ∀ z, RT F tmp (S z) (fc z) c (fun b s2 m2 => m2 = .ok b ∧ Sub s2 (S z)))
    (hb : ∀ z, RS F tmp (S z) (f z) tb (fun s3 m3 => ∃ z', m3 = .ok (.nx z') ∧ Sub s3 (S z')) (fun t s3 m3 => ∃ r, m3 = .ok (.rt r) ∧ Rt t s3 (k (.rt r))))
    (fin : ∀ z, N (S z) (k (.nx z))) : RS F tmp s m (tWhile c tb) N Rt := fun σ H De hh nf eo nx rt => by
  refine ⟨fun n σ' H' => ∃ z, Holds F tmp (S z) σ' H' ∧ rb (whileF n z fc f) k = m, ⟨n, z0, hh.sub sb, em.symm⟩, ?_⟩
  rintro n σ' H' ⟨z, hz, ez⟩
  cases n with
  | zero => exact absurd ez.symm nf
  | succ n =>
    have ez' : rb (rb (fc z) fun t => if t = true then rb (f z) fun o => match o with | .nx z' => whileF n z' fc f | .rt x => .ok (.rt x) else .ok (.nx z)) k = m := ez
    have nf' : fc z ≠ .fail := fun q => nf (by rw [← ez', q]; rfl)
    refine hc z σ' H' _ hz nf' (eo.of fun e he => by rw [← ez', he]; rfl) fun b s2 H2 ⟨eb, sb2⟩ h2 => ?_
    rw [eb] at ez'
    cases b with
    | false =>
      simp only [Bool.false_eq_true, if_false]
      refine nx (S z) σ' H2 ?_ (h2.sub sb2)
      rw [← ez']; exact fin z
    | true =>
      simp only [if_true]
      have ez2 : rb (rb (f z) fun o => match o with | .nx z' => whileF n z' fc f | .rt x => .ok (.rt x)) k = m := ez'
      have nf2 : f z ≠ .fail := fun q => nf (by rw [← ez2, q]; rfl)
      refine ⟨_, fun σ3 H3 w => ⟨n, Nat.lt_succ_self n, w⟩, ?_⟩
      refine hb z σ' H2 _ (h2.sub sb2) nf2 (eo.of fun e he => by rw [← ez2, he]; rfl) (fun s4 σ4 H4 ⟨z', e1, q⟩ h4 => ?_) fun t s4 v σ4 H4 ⟨r, e1, q⟩ h4 => ?_
      · refine ⟨z', h4.sub q, ?_⟩
        rw [← ez2, e1]; rfl
      · refine rt t s4 v σ4 H4 ?_ h4
        have : m = k (.rt r) := by rw [← ez2, e1]; rfl
        rw [this]; exact q
theorem rs_whileN {Z : Type} {c : TT} {tb : TS} (n : Nat) (S : Z → State) (z0 : Z) (fc : Z → Res Bool) (f : Z → Res Z) (k : Z → Res R) (em : m = rb (whileN n z0 fc f) k) (sb : Sub s (S z0))
    (hc : ∀ z, RT F tmp (S z) (fc z) c (fun b s2 m2 => m2 = .ok b ∧ Sub s2 (S z)))
    (hb : ∀ z, RS F tmp (S z) (f z) tb (fun s3 m3 => ∃ z', m3 = .ok z' ∧ Sub s3 (S z')) (fun t s3 m3 => False))
    (fin : ∀ z, N (S z) (k z)) : RS F tmp s m (tWhile c tb) N Rt := fun σ H De hh nf eo nx rt => by
  refine ⟨fun n σ' H' => ∃ z, Holds F tmp (S z) σ' H' ∧ rb (whileN n z fc f) k = m, ⟨n, z0, hh.sub sb, em.symm⟩, ?_⟩
  rintro n σ' H' ⟨z, hz, ez⟩
  cases n with
  | zero => exact absurd ez.symm nf
  | succ n =>
    have ez' : rb (rb (fc z) fun t => if t = true then rb (f z) fun z' => whileN n z' fc f else .ok z) k = m := ez
    have nf' : fc z ≠ .fail := fun q => nf (by rw [← ez', q]; rfl)
    refine hc z σ' H' _ hz nf' (eo.of fun e he => by rw [← ez', he]; rfl) fun b s2 H2 ⟨eb, sb2⟩ h2 => ?_
    rw [eb] at ez'
    cases b with
    | false =>
      simp only [Bool.false_eq_true, if_false]
      refine nx (S z) σ' H2 ?_ (h2.sub sb2)
      rw [← ez']; exact fin z
    | true =>
      simp only [if_true]
      have ez2 : rb (rb (f z) fun z' => whileN n z' fc f) k = m := ez'
      have nf2 : f z ≠ .fail := fun q => nf (by rw [← ez2, q]; rfl)
      refine ⟨_, fun σ3 H3 w => ⟨n, Nat.lt_succ_self n, w⟩, ?_⟩
      refine hb z σ' H2 _ (h2.sub sb2) nf2 (eo.of fun e he => by rw [← ez2, he]; rfl) (fun s4 σ4 H4 ⟨z', e1, q⟩ h4 => ?_) fun t s4 v σ4 H4 q h4 => q.elim
      refine ⟨z', h4.sub q, ?_⟩
      rw [← ez2, e1]; rfl
/-! targets -/
theorem rg_name {i : Nat} {d : D} {K : State → Res R → Prop} (hi : i < s.length) (na : noAli i tmp = true) (hp : F.pv i = none) (k : K (s.set i (some (.f d))) m) : RG F tmp s m [i] (gName i) d K := fun σ H v Q hh nf eo q =>
  q _ _ H k (hh.store hi na hp) (fun j hj => by rw [List.getElem?_set_ne (fun z => hj (by simp [z]))]) (by simp)
end
end VL

namespace VL
open PySem L2

/-! comprehensions -/
section
variable {F : Fc} {G H H' : Hp} {ω : Addr → Option Lab} {tmp : Tmp} {s : State} {σ : St} {v : V} {t : T} {d : D}
def phiUn (n n' : Nat) : Lab → Option Lab
  | 1 :: j :: x => if j = n' then some (1 :: n :: x) else if j < n then some (1 :: j :: x) else none
  | l => some l
theorem Tms.tail {G H : Hp} {ω : Addr → Option Lab} {σ : St} {tmp : Tmp} : ∀ (ex : Tmp), Tms G H ω σ (ex ++ tmp) → Tms G H ω σ tmp
  | [], h => h
  | _ :: r, h => Tms.tail r h.2
/-- what lay between is dropped -/
theorem Holds.under {ex : Tmp} (h : Holds F ((v, .own t) :: (ex ++ tmp)) s σ H) : Holds F ((v, .own t) :: tmp) s σ H := by
  obtain ⟨G, ω, h⟩ := h
  have hle : tmp.length ≤ (ex ++ tmp).length := by simp
  refine ⟨G, _, h.rl (phiUn tmp.length (ex ++ tmp).length) s σ _ h.len (fun j u e => ?_) ⟨?_, ?_⟩ h.pn⟩
  · obtain ⟨v', e1, e2⟩ := h.sl j u e
    exact ⟨v', e1, Own.rl e2 fun x => by simp [phiUn]⟩
  · exact Own.rl h.tm.1 fun x => by simp [phiUn]
  · refine Tms.rl tmp (fun j x hj => ?_) (Tms.tail ex h.tm.2)
    have : ¬ j = (ex ++ tmp).length := by omega
    have h2 : ¬ j = ex.length + tmp.length := by simpa using this
    simp [phiUn, h2, hj]
def noAlis (vs : List Nat) (tmp : Tmp) : Bool := vs.all fun i => noAli i tmp
theorem Holds.wiped {vs : List Nat} (h : Holds F tmp s σ H) (hs : ∀ i ∈ vs, s[i]? = some none) (na : noAlis vs tmp = true) (hp : ∀ i ∈ vs, F.pv i = none) : Holds F tmp s (wipe σ vs) H := by
  obtain ⟨G, ω, h⟩ := h
  refine ⟨G, ω, { h with len := by rw [wipe_length]; exact h.len, sl := fun i t e => ?_, tm := ?_, pn := fun k v e => ?_ }⟩
  · have : i ∉ vs := fun z => by rw [hs i z] at e; cases e
    obtain ⟨v, a, b⟩ := h.sl i t e
    exact ⟨v, by rw [wipe_out this]; exact a, b⟩
  · refine Tms.slots tmp (fun i hi => wipe_out fun z => ?_) h.tm
    have := List.all_eq_true.mp na i z
    rw [hi] at this; cases this
  · have : k ∉ vs := fun z => by rw [hp k z] at e; cases e
    rw [wipe_out this]; exact h.pn k v e
theorem Tms.unwipe {G H : Hp} {ω : Addr → Option Lab} {σ : St} {vs : List Nat} : ∀ (tmp : Tmp), Tms G H ω (wipe σ vs) tmp → Tms G H ω σ tmp
  | [], _ => trivial
  | (v, .own t) :: r, ⟨a, b⟩ => ⟨a, Tms.unwipe r b⟩
  | (v, .ali j) :: r, ⟨a, b⟩ => ⟨(wipe_some a).1, Tms.unwipe r b⟩
theorem Holds.unwipe {vs : List Nat} (h : Holds F tmp s (wipe σ vs) H) : Holds F tmp s σ H := by
  obtain ⟨G, ω, h⟩ := h
  refine ⟨G, ω, { h with len := by rw [← h.len, wipe_length], sl := fun i t e => ?_, tm := Tms.unwipe tmp h.tm, pn := fun k v e => (wipe_some (h.pn k v e)).1 }⟩
  obtain ⟨v, a, b⟩ := h.sl i t e
  exact ⟨v, (wipe_some a).1, b⟩
theorem wipe_congr {σ σ2 : St} {vs is : List Nat} (h : ∀ j, j ∉ is → σ2[j]? = (wipe σ vs)[j]?) (hi : ∀ i ∈ is, i ∈ vs) (hl : σ2.length = (wipe σ vs).length) : wipe σ2 vs = wipe σ vs := by
  refine List.ext_getElem? fun j => ?_
  by_cases hj : j ∈ vs
  · have e1 : (wipe σ2 vs).length = (wipe σ vs).length := by rw [wipe_length, hl]
    by_cases hl2 : j < (wipe σ2 vs).length
    · have n1 : ∀ (τ : St), j < (wipe τ vs).length → (wipe τ vs)[j]? = some none := fun τ hτ => by
        cases e : (wipe τ vs)[j]? with
        | none => rw [List.getElem?_eq_none_iff] at e; omega
        | some x =>
          cases x with
          | none => rfl
          | some v => exact absurd hj (wipe_some e).2
      rw [n1 σ2 hl2, n1 σ (by omega)]
    · rw [List.getElem?_eq_none (by omega), List.getElem?_eq_none (by omega)]
  · rw [wipe_out hj, h j fun z => hj (hi j z), wipe_out hj]
end
section
variable {R : Type} {F : Fc} {tmp : Tmp} {s : State} {m : Res R} {K : Rs R} {N : Rn R} {Rt : Rr R}
/-- an owned value, frozen at once -/
theorem rd_fz {te : TE} (h : RD F tmp s te m (fun tm s1 m1 => ∃ t, tm = .own t ∧ K (.own (.f t.er)) s1 m1)) : RD F tmp s te m K := fun σ H Q hh nf eo q =>
  h σ H Q hh nf eo fun tm s' v H' ⟨t, e, hk⟩ h1 => by
    subst e
    exact q _ _ v H' hk h1.frzTop
def lcBody {Z : Type} (F : Fc) (tmp : Tmp) (S : Z → State) (is : List Nat) (g : TG) (tt : TT) (te : TE) (m : Res (Option D × Z)) (z : Z) (d : D) : Prop :=
  RG F tmp (S z) m is g d (fun s2 m2 => RT F tmp s2 m2 tt (fun b s3 m3 => ∃ ma mb, m3 = (if b = true then ma else mb) ∧
    (b = true → RD F tmp s3 te ma (fun tm s4 m4 => ∃ y z', tm = .own (.f y) ∧ m4 = .ok (some y, z') ∧ Sub s4 (S z'))) ∧ (b = false → ∃ z', mb = .ok (none, z') ∧ Sub s3 (S z'))))
def accD (acc : List D) : Option D → List D
  | some y => acc ++ [y]
  | none => acc
theorem fmS_step {Z S : Type} {d : D} {r acc : List D} {z z' : Z} {f : Z → D → Res (Option D × Z)} {k : List D × Z → Res S} (o : Option D) (e : f z d = .ok (o, z')) :
    rb (rb (fmS (d :: r) z f) fun q => .ok (acc ++ q.1, q.2)) k = rb (rb (fmS r z' f) fun q => .ok (accD acc o ++ q.1, q.2)) k := by
  show rb (rb (rb (f z d) _) _) k = _
  rw [e]
  show rb (rb (rb (fmS r z' f) _) _) k = _
  cases fmS r z' f with
  | ok q => cases o <;> simp [rb, accD]
  | err e => rfl
  | fail => rfl
theorem rd_lc {Z : Type} {wi : TI} {g : TG} {tt : TT} {te : TE} {vs : List Nat} (is : List Nat) (hv : ∀ i ∈ is, i ∈ vs) (hp : ∀ i ∈ vs, F.pv i = none)
    (h : RI F tmp s m wi (fun ex P pb ds s1 m1 => ∃ (S : Z → State) (z0 : Z) (f : Z → D → Res (Option D × Z)) (k : List D × Z → Res R), m1 = rb (fmS ds z0 f) k ∧ Sub s1 (S z0) ∧ (∀ z, P (S z)) ∧ (∀ z, ∀ i ∈ vs, (S z)[i]? = some none) ∧ noAlis vs (ex ++ tmp) = true ∧
      (∀ z d lv acc, lcBody F ((lv, .own (.l acc)) :: (ex ++ tmp)) S is g tt te (f z d) z d) ∧ ∀ p : List D × Z, K (.own (.l p.1)) (pb (S p.2)) (k p))) : RD F tmp s (tLc wi g tt te vs) m K := fun σ H Q hh nf eo q => by
  refine h σ H _ hh nf eo fun ex P pb ds s1 J H1 ⟨S, z0, f, k, em, sb, hP, hS, na, body, fin⟩ it h1 => ?_
  intro D' hD
  have h2 := (h1.sub sb).wiped (hS z0) na hp
  have h3 : Holds F ((.ref D', .own (.l [])) :: (ex ++ tmp)) (S z0) (wipe σ vs) (upd H1 D' (.lst [])) := by
    obtain ⟨G, ω, h2⟩ := h2
    exact h2.newL hD (Nat.zero_le _) rfl
  refine ⟨fun i n H' => ∃ z acc, i + n = ds.length ∧ acc.length ≤ i ∧ Holds F ((.ref D', .own (.l acc)) :: (ex ++ tmp)) (S z) (wipe σ vs) H' ∧ rb (rb (fmS (ds.drop i) z f) fun q => .ok (acc ++ q.1, q.2)) k = m, ⟨ds.length, z0, [], by simp, Nat.le_refl _, h3, ?_⟩, ?_⟩
  · rw [List.drop_zero, em]
    cases fmS ds z0 f with
    | ok q => simp [rb]
    | err e => rfl
    | fail => rfl
  rintro i n H' ⟨z, acc, hin, ha, hz, ez⟩
  cases n with
  | zero =>
    have hi : i = ds.length := by omega
    subst hi
    refine .inl ⟨it.stop _ _ _ (hP z) hz.pop, ?_⟩
    rw [List.drop_length] at ez
    refine q (.own (.l acc)) (pb (S z)) (.ref D') H' ?_ (it.bk [(.ref D', .own (.l acc))] _ _ _ (hP z) hz).unwipe
    have ez' : rb (.ok (acc ++ [], z)) k = m := ez
    rw [List.append_nil] at ez'
    rw [← ez']
    exact fin (acc, z)
  | succ n =>
    have hi : i < ds.length := by omega
    refine .inr ⟨it.go _ _ _ i (hP z) hz.pop hi, _, fun H2 w => ⟨n, by omega, w⟩, fun x H2 y => ?_⟩
    have hd : ds[i]? = some ds[i] := List.getElem?_eq_getElem hi
    have h4 := it.yld [(.ref D', .own (.l acc))] _ _ _ i _ x H2 (hP z) hz hd y
    rw [List.drop_eq_getElem_cons hi] at ez
    have nf' : f z ds[i] ≠ .fail := fun q => nf (by
      rw [← ez]
      show rb (rb (rb (f z ds[i]) _) _) k = _
      rw [q]; rfl)
    have eo' : EOk F (f z ds[i]) := eo.of fun e he => by
      rw [← ez]
      show rb (rb (rb (f z ds[i]) _) _) k = _
      rw [he]; rfl
    refine body z ds[i] (.ref D') acc _ H2 x _ h4 nf' eo' fun s3 σ3 H3 hb h5 hj hl => ?_
    refine ⟨wipe_congr hj hv hl, ?_⟩
    have hw := wipe_congr hj hv hl
    have back : ∀ {z' : Z} {s4 : State} {acc' : List D} {H4 : Hp}, Sub s4 (S z') → Holds F ((.ref D', .own (.l acc')) :: (ex ++ tmp)) s4 σ3 H4 → Holds F ((.ref D', .own (.l acc')) :: (ex ++ tmp)) (S z') (wipe σ vs) H4 := fun {z' s4 acc' H4} sb4 h => by
      have := (h.sub sb4).wiped (hS z') (by
        unfold noAlis at na ⊢
        rw [List.all_eq_true] at na ⊢
        exact fun i hi => na i hi) hp
      rw [hw] at this
      exact this
    refine hb σ3 H3 _ h5 nf' eo' fun b s4 H4 ⟨ma, mb, eb, hT, hF⟩ h6 => ?_
    cases b with
    | false =>
      simp only [Bool.false_eq_true, if_false] at eb ⊢
      obtain ⟨z', e1, sb1⟩ := hF rfl
      refine ⟨z', acc, by omega, by omega, back sb1 h6, ?_⟩
      rw [← ez, fmS_step none (eb.trans e1)]; rfl
    | true =>
      simp only [if_true] at eb ⊢
      subst eb
      refine hT rfl σ3 H4 _ h6 nf' eo' fun tm s5 w H5 ⟨y, z', e0, e1, sb1⟩ h7 => ?_
      subst e0
      have hlt : acc.length < sizeLine := by
        have := it.sz
        omega
      obtain ⟨ws, w1, w2, w3⟩ := h7.wrTmp hlt
      refine ⟨ws, w1, by rw [w2]; exact hlt, z', acc ++ [y], by omega, by simp; omega, back sb1 w3, ?_⟩
      rw [← ez, fmS_step (some y) e1]; rfl
/-- one that changes nothing outside -/
theorem fmR_fmS {f : D → Res (Option D)} : ∀ (ds : List D), fmS ds () (fun _ d => rb (f d) fun o => .ok (o, ())) = rb (fmR ds f) fun q => .ok (q, ())
  | [] => rfl
  | d :: r => by
    show rb (rb (f d) _) _ = rb (rb (f d) _) _
    cases f d with
    | ok o =>
      show rb (fmS r () _) _ = rb (rb (fmR r f) _) _
      rw [fmR_fmS r]
      cases fmR r f with
      | ok q => cases o <;> rfl
      | err e => rfl
      | fail => rfl
    | err e => rfl
    | fail => rfl
theorem rt_true {tt : TT} {K : Bool → State → Res R → Prop} (e : tt = fun _ H Q => Q true H) (k : K true s m) : RT F tmp s m tt K := fun σ H Q hh _ _ q => by subst e; exact q true s H k hh

/-! a def -/
def st0 (n : Nat) (ts : List T) : State := ts.map some ++ List.replicate (n - ts.length) none
def outOk : Nat → List (Option T) → State → List Nat → Prop
  | _, [], _, _ => True
  | k, none :: r, s, p => outOk (k + 1) r s p
  | k, some u :: r, s, p => s[k]? = some (some u) ∧ k ∈ p ∧ outOk (k + 1) r s p
theorem outOk_get : ∀ {outs : List (Option T)} {k : Nat} {s : State} {p : List Nat}, outOk k outs s p → ∀ (j : Nat) (u : T), outs[j]? = some (some u) → s[k + j]? = some (some u) ∧ k + j ∈ p
  | [], _, _, _, _, j, u, e => by simp at e
  | none :: r, k, s, p, h, 0, u, e => by simp at e
  | none :: r, k, s, p, h, j + 1, u, e => by
    have := outOk_get (k := k + 1) (outs := r) h j u (by simpa using e)
    rwa [show k + (j + 1) = k + 1 + j by omega]
  | some x :: r, k, s, p, h, 0, u, e => by simp at e; subst e; exact ⟨h.1, h.2.1⟩
  | some x :: r, k, s, p, h, j + 1, u, e => by
    have := outOk_get (k := k + 1) (outs := r) h.2.2 j u (by simpa using e)
    rwa [show k + (j + 1) = k + 1 + j by omega]
def rEnd {R : Type} (er : R → T) (eo : R → List (Option T)) (pins : List Nat) : Rr R := fun t s' m' => ∃ r, m' = .ok r ∧ t = er r ∧ outOk 0 (eo r) s' pins
theorem fn_body {A : Type} {ec : Nat → Addr} {ea : A → List T} {mir : A → Res R} {er : R → T} {eo : R → List (Option T)} {K : PySem.W.Frag} {N : List Str} {vs : List V} {H : Hp} {Q : VK} {E : XK} {t : TS} (pins : List Nat) (hn : ∀ a, (ea a).length ≤ N.length) (hpin : ∀ a, ∀ k ∈ pins, k < (ea a).length)
    (h : spOf ec ea mir er eo vs H Q E)
    (rd : ∀ (F : Fc) (a : A), F.ec = ec → F.E = E → F.K = K → (∀ k, k ∉ pins → F.pv k = none) → RS F [] (st0 N.length (ea a)) (mir a) t (fun s' m' => rEnd er eo pins (.f .non) s' m') (rEnd er eo pins)) :
    t { nx := fun _ H' => Q .non H', rt := Q } (L2.start N vs) H := by
  obtain ⟨a, G, w, g1, g2, hl, ha, nf, hq, he⟩ := h
  let F : Fc := ⟨K, G, H, w, E, ec, fun k => if k ∈ pins then vs[k]? else none⟩
  have hnn := hn a
  have h0 : Holds F [] (st0 N.length (ea a)) (L2.start N vs) H := by
    refine ⟨G, w, ⟨Same.refl _, g1, fun a o e => .inl e, fun a o e _ => e, fun a o e => ⟨o, e⟩, fun x p e => ⟨(g2 x p e).1, (g2 x p e).2, .inr (by show (w x).isSome = true; rw [e]; rfl)⟩, ?_, fun i u e => ?_, trivial, fun k v e => ?_⟩⟩
    · simp [L2.start, st0, hl]
    · unfold st0 at e
      by_cases hi : i < (ea a).length
      · rw [List.getElem?_append_left (by simpa using hi), List.getElem?_map] at e
        cases e2 : (ea a)[i]? with
        | none => rw [e2] at e; cases e
        | some y =>
          rw [e2] at e
          cases e
          obtain ⟨u', e3, e4⟩ := ha i _ e2
          refine ⟨u', ?_, e4⟩
          unfold L2.start
          rw [List.getElem?_append_left (by simp [hl, hi]), List.getElem?_map, e3]; rfl
      · rw [List.getElem?_append_right (by simp; omega), List.getElem?_replicate] at e
        split at e <;> cases e
    · have e' : (if k ∈ pins then vs[k]? else none) = some v := e
      split at e'
      · unfold L2.start
        rw [List.getElem?_append_left (by simp; exact (List.getElem?_eq_some_iff.mp e').1), List.getElem?_map, e']; rfl
      · cases e'
  have fin : ∀ t s' v σ' H', rEnd er eo pins t s' (mir a) → Holds F [(v, .own t)] s' σ' H' → Q v H' := fun t s' v σ' H' ⟨r, e1, e2, e3⟩ h1 => by
    subst e2
    obtain ⟨G', ω, h1⟩ := h1
    refine hq r v H' e1 ⟨G', rl ω (fun l => match l with | 1 :: 0 :: x => some (2 :: x) | l => some l), ⟨h1.g0, h1.gH, h1.gn, h1.fr, h1.ex⟩, fun x p e => ?_, ?_, fun k u e => ?_⟩
    · obtain ⟨p', e4, _⟩ := rl_some e
      exact h1.wg x p' e4
    · exact Own.rl h1.tm.1 fun x => by simp
    · obtain ⟨e4, e5⟩ := outOk_get e3 k u e
      rw [Nat.zero_add] at e4 e5
      obtain ⟨y, e6, e7⟩ := h1.sl k u e4
      have hk : k < vs.length := by rw [hl]; exact hpin a k e5
      have hp : F.pv k = some vs[k] := by
        show (if k ∈ pins then vs[k]? else none) = _
        rw [if_pos e5, List.getElem?_eq_getElem hk]
      have := h1.pn k _ hp
      rw [e6] at this
      cases this
      exact ⟨_, List.getElem?_eq_getElem hk, Own.rl e7 fun x => by simp⟩
  exact rd F a rfl rfl rfl (fun k hk => by show (if k ∈ pins then vs[k]? else none) = none; rw [if_neg hk]) _ _ _ h0 nf (fun e ee od H' ⟨G', a1, a2, a3, a4, a5, a6⟩ => he e od H' ee ⟨G', ⟨a1, a2, a3, a4, a5⟩, a6⟩) (fun s' σ' H' hk h1 => fin (.f .non) s' .non σ' H' hk (holds_push (d := .non) (v := .non) h1 fun _ => rfl)) fin
end
end VL

namespace VL
open PySem L2

/-! what stands at a temporary -/
def RepC (G H : Hp) : D → V → Prop
  | .lst l, v => ∃ a vs, v = .ref a ∧ Rd H a (.lst vs) ∧ l.length ≤ sizeLine ∧ Reps G l vs
  | .tup l, v => ∃ a vs, v = .ref a ∧ H a = some (.tup vs) ∧ l.length ≤ sizeLine ∧ Reps G l vs
  | .dct false l, v => ∃ a kvs, v = .ref a ∧ H a = some (.dK kvs) ∧ RepK G l kvs
  | .dct true l, v => ∃ a kvs, v = .ref a ∧ H a = some (.dT kvs) ∧ RepT G l kvs
  | d, v => Rep G d v
def valT (s : State) (tm : TM) : Option D := (treeAt s tm).map T.er
def valS (s : State) (tm : TM) : Option D := match treeAt s tm with
  | some (.f d) => some d
  | some (.l ds) => some (.lst ds)
  | some (.dc k l) => some (.dct k l)
  | _ => none
section
variable {F : Fc} {G H H' : Hp} {ω : Addr → Option Lab} {tmp : Tmp} {s : State} {σ : St} {v : V} {t : T} {d : D}
theorem Rep.toC (sm : Same G H) : ∀ {d : D} {v : V}, Rep G d v → RepC G H d v
  | .non, _, h => h
  | .bl _, _, h => h
  | .int _, _, h => h
  | .str _, _, h => h
  | .opq _, _, h => h
  | .lst _, _, ⟨a, vs, e, r, z, q⟩ => ⟨a, vs, e, Same.rd sm r, z, q⟩
  | .tup _, _, ⟨a, vs, e, r, z, q⟩ => ⟨a, vs, e, sm _ _ r, z, q⟩
  | .dct false _, _, ⟨a, kvs, e, r, q⟩ => ⟨a, kvs, e, sm _ _ r, q⟩
  | .dct true _, _, ⟨a, kvs, e, r, q⟩ => ⟨a, kvs, e, sm _ _ r, q⟩
theorem RepC.toR (sm : Same G H) : ∀ {d : D} {v : V}, RepC G H d v → Rep H d v
  | .non, _, h => h
  | .bl _, _, h => h
  | .int _, _, h => h
  | .str _, _, h => h
  | .opq _, _, h => h
  | .lst l, _, ⟨a, vs, e, r, z, q⟩ => ⟨a, vs, e, r, z, Reps.mono sm _ _ q⟩
  | .tup l, _, ⟨a, vs, e, r, z, q⟩ => ⟨a, vs, e, r, z, Reps.mono sm _ _ q⟩
  | .dct false l, _, ⟨a, kvs, e, r, q⟩ => ⟨a, kvs, e, r, RepK.mono sm _ _ q⟩
  | .dct true l, _, ⟨a, kvs, e, r, q⟩ => ⟨a, kvs, e, r, RepT.mono sm _ _ q⟩
theorem Hd.tree (h : Hd F G ω tmp s σ H) {p : Lab} {tm : TM} (ok : TmOk G H ω σ p tm v) (e : treeAt s tm = some t) : ∃ q, Own G H ω q t v := by
  cases tm with
  | own t' => cases e; exact ⟨p, ok⟩
  | ali i =>
    have ok' : σ[i]? = some (some v) := ok
    cases e5 : s[i]? with
    | none => simp [treeAt, e5] at e
    | some x =>
      simp [treeAt, e5] at e
      subst e
      obtain ⟨v', a, b⟩ := h.sl i t e5
      rw [ok'] at a
      cases a
      exact ⟨_, b⟩
theorem Hd.repT (h : Hd F G ω tmp s σ H) {p : Lab} {tm : TM} (ok : TmOk G H ω σ p tm v) (e : valT s tm = some d) : Rep H d v := by
  unfold valT at e
  cases e2 : treeAt s tm with
  | none => rw [e2] at e; cases e
  | some t =>
    rw [e2] at e
    cases e
    obtain ⟨q, o⟩ := h.tree ok e2
    exact Own.rep h.gH q t v (fun a x _ o ho => ho) o
theorem Hd.repC (h : Hd F G ω tmp s σ H) {p : Lab} {tm : TM} (ok : TmOk G H ω σ p tm v) (e : valS s tm = some d) : RepC G H d v := by
  unfold valS at e
  cases e2 : treeAt s tm with
  | none => rw [e2] at e; cases e
  | some t =>
    rw [e2] at e
    obtain ⟨q, o⟩ := h.tree ok e2
    cases t with
    | f d' => cases e; exact Rep.toC h.gH o
    | l ds => cases e; obtain ⟨a, vs, e, r, w, z, q⟩ := o; exact ⟨a, vs, e, .inl r, z, q⟩
    | dc k l =>
      cases e
      cases k <;> (obtain ⟨a, kvs, e, w, r⟩ := o; exact ⟨a, kvs, e, r⟩)
    | ll ts => cases e
    | tt ts => cases e
    | hole w => cases e
end
theorem holds_bl {F : Fc} {tmp : Tmp} {s : State} {σ : St} {H : Hp} {b : Bool} (h : Holds F tmp s σ H) : Holds F ((.bl b, .own (.f (.bl b))) :: tmp) s σ H := holds_push (d := .bl b) (v := .bl b) h fun _ => rfl
def Op2C (r : R2) (op : D → D → Option D) : Prop := ∀ G H x y a b c Q, Same G H → RepC G H a x → RepC G H b y → op a b = some c → (∀ v, Rep G c v → Q v H) → r x y H Q
def Op2L (r : R2) (op : D → D → Option (List D)) : Prop := ∀ G H x y a b c Q, Same G H → RepC G H a x → RepC G H b y → op a b = some c → c.length ≤ sizeLine ∧ ((∀ p vs, H p = none → Reps G c vs → Q (.ref p) (upd H p (.lst vs))) → r x y H Q)
def Op2B (r : R2) (op : D → D → Option Bool) : Prop := ∀ H x y a b c Q, Rep H a x → Rep H b y → op a b = some c → Q (.bl c) H → r x y H Q
def Op1C (r : V → Hp → VK → Prop) (op : D → Option D) : Prop := ∀ G H x a c Q, Same G H → RepC G H a x → op a = some c → (∀ v, Rep G c v → Q v H) → r x H Q
def Op1L (r : V → Hp → VK → Prop) (op : D → Option (List D)) : Prop := ∀ G H x a c Q, Same G H → RepC G H a x → op a = some c → c.length ≤ sizeLine ∧ ((∀ p vs, H p = none → Reps G c vs → Q (.ref p) (upd H p (.lst vs))) → r x H Q)
def Op1B (r : V → Hp → VK → Prop) (op : D → Option Bool) : Prop := ∀ H x a c Q, Rep H a x → op a = some c → Q (.bl c) H → r x H Q
section
variable {R : Type} {F : Fc} {tmp : Tmp} {s : State} {m : Res R} {K : Rs R} {N : Rn R} {Rt : Rr R} {ta tb : TE}
theorem rd_op2 {r : R2} {op : D → D → Option D} (ho : Op2C r op) (h : RD F tmp s ta m (fun tm1 s1 m1 => ∀ x, RD F ((x, tm1) :: tmp) s1 tb m1 (fun tm2 s2 m2 => ∃ a b k, valS s2 tm1 = some a ∧ valS s2 tm2 = some b ∧ m2 = ob (op a b) k ∧ ∀ c, K (.own (.f c)) s2 (k c)))) : RD F tmp s (tOp r ta tb) m K := fun σ H Q hh nf eo q =>
  h σ H _ hh nf eo fun tm1 s1 x H1 h2 h1 => h2 x σ H1 _ h1 nf eo fun tm2 s2 y H2 ⟨a, b, k, ea, eb, em, hk⟩ h3 => by
    obtain ⟨c, ec, em'⟩ := ob_cases (by rw [← em]; exact nf)
    obtain ⟨G, ω, h3⟩ := h3
    exact ho G H2 x y a b c Q h3.gH (h3.repC h3.tm.2.1 ea) (h3.repC h3.tm.1 eb) ec fun v rv => q _ s2 v H2 (by rw [em, em']; exact hk c) ⟨G, ω, h3.pop.pop.pushF rv⟩
theorem rd_op2L {r : R2} {op : D → D → Option (List D)} (ho : Op2L r op) (h : RD F tmp s ta m (fun tm1 s1 m1 => ∀ x, RD F ((x, tm1) :: tmp) s1 tb m1 (fun tm2 s2 m2 => ∃ a b k, valS s2 tm1 = some a ∧ valS s2 tm2 = some b ∧ m2 = ob (op a b) k ∧ ∀ c, K (.own (.l c)) s2 (k c)))) : RD F tmp s (tOp r ta tb) m K := fun σ H Q hh nf eo q =>
  h σ H _ hh nf eo fun tm1 s1 x H1 h2 h1 => h2 x σ H1 _ h1 nf eo fun tm2 s2 y H2 ⟨a, b, k, ea, eb, em, hk⟩ h3 => by
    obtain ⟨c, ec, em'⟩ := ob_cases (by rw [← em]; exact nf)
    obtain ⟨G, ω, h3⟩ := h3
    obtain ⟨z, ho⟩ := ho G H2 x y a b c Q h3.gH (h3.repC h3.tm.2.1 ea) (h3.repC h3.tm.1 eb) ec
    exact ho fun p vs np rv => q _ s2 _ _ (by rw [em, em']; exact hk c) (h3.pop.pop.newL np z rv)
theorem rd_op2B {r : R2} {op : D → D → Option Bool} (ho : Op2B r op) (h : RD F tmp s ta m (fun tm1 s1 m1 => ∀ x, RD F ((x, tm1) :: tmp) s1 tb m1 (fun tm2 s2 m2 => ∃ a b k, valT s2 tm1 = some a ∧ valT s2 tm2 = some b ∧ m2 = ob (op a b) k ∧ ∀ c, K (.own (.f (.bl c))) s2 (k c)))) : RD F tmp s (tOp r ta tb) m K := fun σ H Q hh nf eo q =>
  h σ H _ hh nf eo fun tm1 s1 x H1 h2 h1 => h2 x σ H1 _ h1 nf eo fun tm2 s2 y H2 ⟨a, b, k, ea, eb, em, hk⟩ h3 => by
    obtain ⟨c, ec, em'⟩ := ob_cases (by rw [← em]; exact nf)
    have h4 := h3
    obtain ⟨G, ω, h3⟩ := h3
    exact ho H2 x y a b c Q (h3.repT h3.tm.2.1 ea) (h3.repT h3.tm.1 eb) ec (q _ s2 _ H2 (by rw [em, em']; exact hk c) (holds_bl h4.pop.pop))
theorem rd_un {r : V → Hp → VK → Prop} {op : D → Option D} (ho : Op1C r op) (h : RD F tmp s ta m (fun tm1 s1 m1 => ∃ a k, valS s1 tm1 = some a ∧ m1 = ob (op a) k ∧ ∀ c, K (.own (.f c)) s1 (k c))) : RD F tmp s (tUn r ta) m K := fun σ H Q hh nf eo q =>
  h σ H _ hh nf eo fun tm1 s1 x H1 ⟨a, k, ea, em, hk⟩ h1 => by
    obtain ⟨c, ec, em'⟩ := ob_cases (by rw [← em]; exact nf)
    obtain ⟨G, ω, h1⟩ := h1
    exact ho G H1 x a c Q h1.gH (h1.repC h1.tm.1 ea) ec fun v rv => q _ s1 v H1 (by rw [em, em']; exact hk c) ⟨G, ω, h1.pop.pushF rv⟩
/-- a built-in of one argument -/
theorem rd_cb1 {r : List V → Hp → VK → Prop} {op : D → Option D} (ho : Op1C (fun x H Q => r [x] H Q) op) (h : RD F tmp s ta m (fun tm1 s1 m1 => ∃ a k, valS s1 tm1 = some a ∧ m1 = ob (op a) k ∧ ∀ c, K (.own (.f c)) s1 (k c))) : RD F tmp s (tCB r (tCons ta tNil)) m K := fun σ H Q hh nf eo q =>
  h σ H _ hh nf eo fun tm1 s1 x H1 ⟨a, k, ea, em, hk⟩ h1 => by
    obtain ⟨c, ec, em'⟩ := ob_cases (by rw [← em]; exact nf)
    obtain ⟨G, ω, h1⟩ := h1
    exact ho G H1 x a c Q h1.gH (h1.repC h1.tm.1 ea) ec fun v rv => q _ s1 v H1 (by rw [em, em']; exact hk c) ⟨G, ω, h1.pop.pushF rv⟩
theorem rd_cb1T {r : List V → Hp → VK → Prop} {op : D → Option D} (ho : Op1C (fun x H Q => r [x] H Q) op) (h : RD F tmp s ta m (fun tm1 s1 m1 => ∃ a k, valT s1 tm1 = some a ∧ m1 = ob (op a) k ∧ ∀ c, K (.own (.f c)) s1 (k c))) (fl : ∀ a c, op a = some c → ∀ (G H : Hp) v, Rep H c v → Rep G c v) : RD F tmp s (tCB r (tCons ta tNil)) m K := fun σ H Q hh nf eo q =>
  h σ H _ hh nf eo fun tm1 s1 x H1 ⟨a, k, ea, em, hk⟩ h1 => by
    obtain ⟨c, ec, em'⟩ := ob_cases (by rw [← em]; exact nf)
    obtain ⟨G, ω, h1⟩ := h1
    exact ho H1 H1 x a c Q (Same.refl _) (Rep.toC (Same.refl _) (h1.repT h1.tm.1 ea)) ec fun v rv => q _ s1 v H1 (by rw [em, em']; exact hk c) ⟨G, ω, h1.pop.pushF (fl a c ec _ _ v rv)⟩
theorem rd_cb1L {r : List V → Hp → VK → Prop} {op : D → Option (List D)} (ho : Op1L (fun x H Q => r [x] H Q) op) (h : RD F tmp s ta m (fun tm1 s1 m1 => ∃ a k, valS s1 tm1 = some a ∧ m1 = ob (op a) k ∧ ∀ c, K (.own (.l c)) s1 (k c))) : RD F tmp s (tCB r (tCons ta tNil)) m K := fun σ H Q hh nf eo q =>
  h σ H _ hh nf eo fun tm1 s1 x H1 ⟨a, k, ea, em, hk⟩ h1 => by
    obtain ⟨c, ec, em'⟩ := ob_cases (by rw [← em]; exact nf)
    obtain ⟨G, ω, h1⟩ := h1
    obtain ⟨z, ho⟩ := ho G H1 x a c Q h1.gH (h1.repC h1.tm.1 ea) ec
    exact ho fun p vs np rv => q _ s1 _ _ (by rw [em, em']; exact hk c) (h1.pop.newL np z rv)
theorem rd_cb2 {r : List V → Hp → VK → Prop} {op : D → D → Option D} (ho : Op2C (fun x y H Q => r [x, y] H Q) op) (h : RD F tmp s ta m (fun tm1 s1 m1 => ∀ x, RD F ((x, tm1) :: tmp) s1 tb m1 (fun tm2 s2 m2 => ∃ a b k, valS s2 tm1 = some a ∧ valS s2 tm2 = some b ∧ m2 = ob (op a b) k ∧ ∀ c, K (.own (.f c)) s2 (k c)))) : RD F tmp s (tCB r (tCons ta (tCons tb tNil))) m K :=
  rd_op2 ho h
/-! tests -/
def asB : D → Option Bool | .bl b => some b | _ => none
def asI : D → Option Int | .int i => some i | _ => none
theorem rt_val {K : Bool → State → Res R → Prop} (h : RD F tmp s ta m (fun tm s1 m1 => ∃ d k, valS s1 tm = some d ∧ m1 = ob (asB d) k ∧ ∀ c, K c s1 (k c))) : RT F tmp s m (tB ta) K := fun σ H Q hh nf eo q =>
  h σ H _ hh nf eo fun tm s1 x H1 ⟨d, k, ea, em, hk⟩ h1 => by
    obtain ⟨c, ec, em'⟩ := ob_cases (by rw [← em]; exact nf)
    have h2 := h1
    obtain ⟨G, ω, h1⟩ := h1
    have r := h1.repC h1.tm.1 ea
    cases d <;> first | cases ec | skip
    exact ⟨_, r, q _ s1 H1 (by rw [em, em']; exact hk _) h2.pop⟩
theorem rt_test {K : Bool → State → Res R → Prop} (h : RT F tmp s m (tB ta) K) : RT F tmp s m (tTest ta) K := h
theorem rt_op2B {r : R2} {op : D → D → Option Bool} {K : Bool → State → Res R → Prop} (ho : Op2B r op) (h : RD F tmp s ta m (fun tm1 s1 m1 => ∀ x, RD F ((x, tm1) :: tmp) s1 tb m1 (fun tm2 s2 m2 => ∃ a b k, valT s2 tm1 = some a ∧ valT s2 tm2 = some b ∧ m2 = ob (op a b) k ∧ ∀ c, K c s2 (k c)))) : RT F tmp s m (tTest (tOp r ta tb)) K := fun σ H Q hh nf eo q =>
  h σ H _ hh nf eo fun tm1 s1 x H1 h2 h1 => h2 x σ H1 _ h1 nf eo fun tm2 s2 y H2 ⟨a, b, k, ea, eb, em, hk⟩ h3 => by
    obtain ⟨c, ec, em'⟩ := ob_cases (by rw [← em]; exact nf)
    have h4 := h3
    obtain ⟨G, ω, h3⟩ := h3
    exact ho H2 x y a b c _ (h3.repT h3.tm.2.1 ea) (h3.repT h3.tm.1 eb) ec ⟨c, rfl, q _ s2 H2 (by rw [em, em']; exact hk c) h4.pop.pop⟩
theorem rt_not {t : TT} {K : Bool → State → Res R → Prop} (h : RT F tmp s m t (fun b s1 m1 => K (!b) s1 m1)) : RT F tmp s m (tNot t) K := fun σ H Q hh nf eo q => h σ H _ hh nf eo fun b s1 H1 hk h1 => q _ s1 H1 hk h1
theorem rt_and {Z : Type} {t u : TT} {K : Bool → State → Res R → Prop} (h : RT F tmp s m t (fun b s1 m1 => ∃ (S : Z → State) (z0 : Z) (ma : Res (Bool × Z)) (k : Bool × Z → Res R), m1 = rb (if b = true then ma else .ok (false, z0)) k ∧ Sub s1 (S z0) ∧
      (b = true → RT F tmp s1 ma u (fun c s2 m2 => ∃ z, m2 = .ok (c, z) ∧ Sub s2 (S z))) ∧ ∀ p : Bool × Z, K p.1 (S p.2) (k p))) : RT F tmp s m (tAnd t u) K := fun σ H Q hh nf eo q =>
  h σ H _ hh nf eo fun b s1 H1 ⟨S, z0, ma, k, em, sb, hu, hk⟩ h1 => by
    cases b with
    | false =>
      simp only [Bool.false_eq_true, if_false] at em ⊢
      exact q false _ H1 (by rw [em]; exact hk (false, z0)) (h1.sub sb)
    | true =>
      simp only [if_true] at em ⊢
      have nf' : ma ≠ .fail := fun z => nf (by rw [em, z]; rfl)
      refine hu rfl σ H1 _ h1 nf' (eo.of fun e he => by rw [em, he]; rfl) fun c s2 H2 ⟨z, e1, sb2⟩ h2 => ?_
      exact q c _ H2 (by rw [em, e1]; exact hk (c, z)) (h2.sub sb2)
theorem rt_or {Z : Type} {t u : TT} {K : Bool → State → Res R → Prop} (h : RT F tmp s m t (fun b s1 m1 => ∃ (S : Z → State) (z0 : Z) (ma : Res (Bool × Z)) (k : Bool × Z → Res R), m1 = rb (if b = true then .ok (true, z0) else ma) k ∧ Sub s1 (S z0) ∧
      (b = false → RT F tmp s1 ma u (fun c s2 m2 => ∃ z, m2 = .ok (c, z) ∧ Sub s2 (S z))) ∧ ∀ p : Bool × Z, K p.1 (S p.2) (k p))) : RT F tmp s m (tOr t u) K := fun σ H Q hh nf eo q =>
  h σ H _ hh nf eo fun b s1 H1 ⟨S, z0, ma, k, em, sb, hu, hk⟩ h1 => by
    cases b with
    | true =>
      simp only [if_true] at em ⊢
      exact q true _ H1 (by rw [em]; exact hk (true, z0)) (h1.sub sb)
    | false =>
      simp only [Bool.false_eq_true, if_false] at em ⊢
      have nf' : ma ≠ .fail := fun z => nf (by rw [em, z]; rfl)
      refine hu rfl σ H1 _ h1 nf' (eo.of fun e he => by rw [em, he]; rfl) fun c s2 H2 ⟨z, e1, sb2⟩ h2 => ?_
      exact q c _ H2 (by rw [em, e1]; exact hk (c, z)) (h2.sub sb2)
/-! and, or, not as values -/
theorem rd_andV {Z : Type} (h : RD F tmp s ta m (fun tm s1 m1 => ∃ d kk, valS s1 tm = some d ∧ m1 = ob (asB d) kk ∧ ∀ b, ∃ (S : Z → State) (z0 : Z) (ma : Res (D × Z)) (k : D × Z → Res R), kk b = rb (if b = true then ma else .ok (.bl false, z0)) k ∧ Sub s1 (S z0) ∧
      (b = true → RD F tmp s1 tb ma (fun tm2 s2 m2 => ∃ d2 z, tm2 = .own (.f d2) ∧ m2 = .ok (d2, z) ∧ Sub s2 (S z))) ∧ ∀ p : D × Z, K (.own (.f p.1)) (S p.2) (k p))) : RD F tmp s (tAndV ta tb) m K := fun σ H Q hh nf eo q =>
  h σ H _ hh nf eo fun tm s1 x H1 ⟨d, kk, ea, em0, hb⟩ h1 => by
    obtain ⟨b, ec, em'⟩ := ob_cases (by rw [← em0]; exact nf)
    have h2 := h1
    obtain ⟨G, ω, h1⟩ := h1
    have r := h1.repC h1.tm.1 ea
    cases d <;> first | cases ec | skip
    refine ⟨_, r, ?_⟩
    obtain ⟨S, z0, ma, k, em, sb, hu, hk⟩ := hb b
    rw [← em', ← em0] at em
    cases b with
    | false =>
      simp only [Bool.false_eq_true, if_false] at em ⊢
      exact q _ _ _ H1 (by rw [em]; exact hk (_, z0)) (holds_bl (h2.pop.sub sb))
    | true =>
      simp only [if_true] at em ⊢
      have nf' : ma ≠ .fail := fun z => nf (by rw [em, z]; rfl)
      refine hu rfl σ H1 _ h2.pop nf' (eo.of fun e he => by rw [em, he]; rfl) fun tm2 s2 y H2 ⟨d2, z, e0, e1, sb2⟩ h3 => ?_
      subst e0
      exact q _ _ y H2 (by rw [em, e1]; exact hk (d2, z)) (h3.sub sb2)
theorem rd_orV {Z : Type} (h : RD F tmp s ta m (fun tm s1 m1 => ∃ d kk, valS s1 tm = some d ∧ m1 = ob (asB d) kk ∧ ∀ b, ∃ (S : Z → State) (z0 : Z) (ma : Res (D × Z)) (k : D × Z → Res R), kk b = rb (if b = true then .ok (.bl true, z0) else ma) k ∧ Sub s1 (S z0) ∧
      (b = false → RD F tmp s1 tb ma (fun tm2 s2 m2 => ∃ d2 z, tm2 = .own (.f d2) ∧ m2 = .ok (d2, z) ∧ Sub s2 (S z))) ∧ ∀ p : D × Z, K (.own (.f p.1)) (S p.2) (k p))) : RD F tmp s (tOrV ta tb) m K := fun σ H Q hh nf eo q =>
  h σ H _ hh nf eo fun tm s1 x H1 ⟨d, kk, ea, em0, hb⟩ h1 => by
    obtain ⟨b, ec, em'⟩ := ob_cases (by rw [← em0]; exact nf)
    have h2 := h1
    obtain ⟨G, ω, h1⟩ := h1
    have r := h1.repC h1.tm.1 ea
    cases d <;> first | cases ec | skip
    refine ⟨_, r, ?_⟩
    obtain ⟨S, z0, ma, k, em, sb, hu, hk⟩ := hb b
    rw [← em', ← em0] at em
    cases b with
    | true =>
      simp only [if_true] at em ⊢
      exact q _ _ _ H1 (by rw [em]; exact hk (_, z0)) (holds_bl (h2.pop.sub sb))
    | false =>
      simp only [Bool.false_eq_true, if_false] at em ⊢
      have nf' : ma ≠ .fail := fun z => nf (by rw [em, z]; rfl)
      refine hu rfl σ H1 _ h2.pop nf' (eo.of fun e he => by rw [em, he]; rfl) fun tm2 s2 y H2 ⟨d2, z, e0, e1, sb2⟩ h3 => ?_
      subst e0
      exact q _ _ y H2 (by rw [em, e1]; exact hk (d2, z)) (h3.sub sb2)
theorem rd_notV (h : RD F tmp s ta m (fun tm s1 m1 => ∃ d k, valS s1 tm = some d ∧ m1 = ob (asB d) k ∧ ∀ b, K (.own (.f (.bl (!b)))) s1 (k b))) : RD F tmp s (tNotV ta) m K := fun σ H Q hh nf eo q =>
  h σ H _ hh nf eo fun tm s1 x H1 ⟨d, k, ea, em, hk⟩ h1 => by
    obtain ⟨c, ec, em'⟩ := ob_cases (by rw [← em]; exact nf)
    have h2 := h1
    obtain ⟨G, ω, h1⟩ := h1
    have r := h1.repC h1.tm.1 ea
    cases d <;> first | cases ec | skip
    exact ⟨_, r, q _ s1 _ H1 (by rw [em, em']; exact hk _) (holds_bl h2.pop)⟩
/-! displays -/
def frozs : List TM → Option (List D)
  | [] => some []
  | .own (.f d) :: r => (frozs r).map (d :: ·)
  | _ :: _ => none
theorem frozs_reps {G H : Hp} {ω : Addr → Option Lab} {σ : St} : ∀ (vs : List V) (tms : List TM) (tmp : Tmp) (ds : List D), vs.length = tms.length → frozs tms = some ds → Tms G H ω σ (pushes vs tms tmp) → Tms G H ω σ tmp ∧ Reps G ds vs := fun vs tms tmp ds hl hf ht => by
  obtain ⟨h0, h1⟩ := Tms.args vs tms tmp hl ht
  refine ⟨h0, ?_⟩
  have key : ∀ (tms : List TM) (ds : List D), frozs tms = some ds → ds.length = tms.length ∧ ∀ (k : Nat) d, ds[k]? = some d → tms[k]? = some (.own (.f d)) := by
    intro tms
    induction tms with
    | nil => intro ds h; cases h; exact ⟨rfl, fun k d e => by simp at e⟩
    | cons tm r ih =>
      intro ds h
      cases tm with
      | ali i => cases h
      | own t =>
        cases t <;> try (simp [frozs] at h; done)
        rename_i d0
        cases e : frozs r with
        | none => simp [frozs, e] at h
        | some ds' =>
          simp [frozs, e] at h
          subst h
          obtain ⟨a, b⟩ := ih ds' e
          refine ⟨by simp [a], fun k d e2 => ?_⟩
          cases k with
          | zero => simp at e2; subst e2; rfl
          | succ k => simpa using b k d (by simpa using e2)
  obtain ⟨k1, k2⟩ := key tms ds hf
  refine Reps.of (by rw [k1, hl]) fun i d v e1 e2 => ?_
  obtain ⟨w, w1, w2⟩ := h1 i _ (k2 i d e1)
  rw [e2] at w1; cases w1
  exact w2
theorem pushes_pop : ∀ (vs : List V) (tms : List TM) (tmp : Tmp) {s : State} {σ : St} {H : Hp}, vs.length = tms.length → Holds F (pushes vs tms tmp) s σ H → Holds F tmp s σ H
  | [], [], _, _, _, _, _, h => h
  | v :: vs, tm :: tms, tmp, _, _, _, hl, h => (pushes_pop vs tms ((v, tm) :: tmp) (by simpa using hl) h).pop
  | [], _ :: _, _, _, _, _, hl, _ => by simp at hl
  | _ :: _, [], _, _, _, _, hl, _ => by simp at hl
theorem rd_lst {t : TA} (h : RA F tmp s m t (fun tms s1 m1 => ∃ ds, frozs tms = some ds ∧ ds.length ≤ 1000 ∧ K (.own (.l ds)) s1 m1)) : RD F tmp s (tLst t) m K := fun σ H Q hh nf eo q =>
  h σ H _ hh nf eo fun tms s1 vs H1 ⟨ds, hf, hz, hk⟩ hl h1 => by
    obtain ⟨G, ω, h2⟩ := h1
    obtain ⟨t0, r⟩ := frozs_reps vs tms tmp ds hl hf h2.tm
    have h3 : Hd F G ω tmp s1 σ H1 := { h2 with tm := t0 }
    have z : ds.length ≤ sizeLine := by rw [sizeLine_eq]; omega
    exact ⟨by rw [← r.length]; exact z, fun p hp => q _ s1 _ _ hk (h3.newL hp z r)⟩
theorem rd_tup {t : TA} (h : RA F tmp s m t (fun tms s1 m1 => ∃ ds, frozs tms = some ds ∧ ds.length ≤ 1000 ∧ K (.own (.f (.tup ds))) s1 m1)) : RD F tmp s (tTup t) m K := fun σ H Q hh nf eo q =>
  h σ H _ hh nf eo fun tms s1 vs H1 ⟨ds, hf, hz, hk⟩ hl h1 => by
    obtain ⟨G, ω, h2⟩ := h1
    obtain ⟨t0, r⟩ := frozs_reps vs tms tmp ds hl hf h2.tm
    have h3 : Hd F G ω tmp s1 σ H1 := { h2 with tm := t0 }
    have z : ds.length ≤ sizeLine := by rw [sizeLine_eq]; omega
    exact ⟨by rw [← r.length]; exact z, fun p hp => q _ s1 _ _ hk (h3.newT hp z r)⟩
end
end VL

namespace VL
open PySem L2 PySem.SeqAt

theorem mkS_beq (a b : List Nat) : (mkS a == mkS b) = (a == b) := by
  by_cases h : a = b
  · subst h; simp
  · have h2 : ¬ mkS a = mkS b := fun z => h (mkS_inj z)
    rw [beq_eq_false_iff_ne.mpr h]
    exact beq_eq_false_iff_ne.mpr h2
/-! == -/
mutual
def D.eqv : D → D → Bool
  | .non, .non => true
  | .bl a, .bl b => a == b
  | .bl a, .int b => (if a then 1 else 0) == b
  | .int a, .bl b => a == (if b then 1 else 0)
  | .int a, .int b => a == b
  | .str a, .str b => a == b
  | .tup a, .tup b => D.eqvs a b
  | .lst a, .lst b => D.eqvs a b
  | _, _ => false
def D.eqvs : List D → List D → Bool
  | [], [] => true
  | a :: r, b :: q => D.eqv a b && D.eqvs r q
  | _, _ => false
end
mutual
def D.plain : D → Bool
  | .tup l => D.plains l
  | .lst l => D.plains l
  | .dct _ _ => false
  | .opq _ => false
  | .non => true
  | .bl _ => true
  | .int _ => true
  | .str _ => true
def D.plains : List D → Bool
  | [] => true
  | a :: r => D.plain a && D.plains r
end
mutual
def D.dep : D → Nat
  | .tup l => D.deps l + 1
  | .lst l => D.deps l + 1
  | .dct _ _ => 0
  | .opq _ => 0
  | .non => 0
  | .bl _ => 0
  | .int _ => 0
  | .str _ => 0
def D.deps : List D → Nat
  | [] => 0
  | a :: r => max (D.dep a) (D.deps r)
end
theorem rd_inj {H : Hp} {a : Addr} {o u : List V} (h : Rd H a (.lst o)) (q : Rd H a (.lst u)) : o = u := by
  rcases h with h | ⟨_, h⟩ <;> rcases q with q | ⟨_, q⟩ <;> (rw [h] at q; first | (cases q; done) | (cases q; rfl))
mutual
theorem rep_inj {H : Hp} : ∀ (a b : D) (v : V), a.plain = true → b.plain = true → Rep H a v → Rep H b v → a = b

  | .non, .non, _, _, _, _, _ => rfl
  | .non, .bl y, v, _, _, h, q => by have e := (show v = .non from h).symm.trans (show v = .bl y from q); cases e
  | .non, .int y, v, _, _, h, q => by have e := (show v = .non from h).symm.trans (show v = .int y from q); cases e
  | .non, .str y, v, _, _, h, q => by have e := (show v = .non from h).symm.trans (show v = .str (mkS y) from q); cases e
  | .non, .tup l, v, _, _, h, ⟨_, _, e, _⟩ => by have e2 := (show v = .non from h).symm.trans e; cases e2
  | .non, .lst l, v, _, _, h, ⟨_, _, e, _⟩ => by have e2 := (show v = .non from h).symm.trans e; cases e2
  | .bl x, .non, v, _, _, h, q => by have e := (show v = .bl x from h).symm.trans (show v = .non from q); cases e
  | .bl x, .bl y, v, _, _, h, q => by
    have e := (show v = .bl x from h).symm.trans (show v = .bl y from q)
    injection e with e
    rw [e]
  | .bl x, .int y, v, _, _, h, q => by have e := (show v = .bl x from h).symm.trans (show v = .int y from q); cases e
  | .bl x, .str y, v, _, _, h, q => by have e := (show v = .bl x from h).symm.trans (show v = .str (mkS y) from q); cases e
  | .bl x, .tup l, v, _, _, h, ⟨_, _, e, _⟩ => by have e2 := (show v = .bl x from h).symm.trans e; cases e2
  | .bl x, .lst l, v, _, _, h, ⟨_, _, e, _⟩ => by have e2 := (show v = .bl x from h).symm.trans e; cases e2
  | .int x, .non, v, _, _, h, q => by have e := (show v = .int x from h).symm.trans (show v = .non from q); cases e
  | .int x, .bl y, v, _, _, h, q => by have e := (show v = .int x from h).symm.trans (show v = .bl y from q); cases e
  | .int x, .int y, v, _, _, h, q => by
    have e := (show v = .int x from h).symm.trans (show v = .int y from q)
    injection e with e
    rw [e]
  | .int x, .str y, v, _, _, h, q => by have e := (show v = .int x from h).symm.trans (show v = .str (mkS y) from q); cases e
  | .int x, .tup l, v, _, _, h, ⟨_, _, e, _⟩ => by have e2 := (show v = .int x from h).symm.trans e; cases e2
  | .int x, .lst l, v, _, _, h, ⟨_, _, e, _⟩ => by have e2 := (show v = .int x from h).symm.trans e; cases e2
  | .str x, .non, v, _, _, h, q => by have e := (show v = .str (mkS x) from h).symm.trans (show v = .non from q); cases e
  | .str x, .bl y, v, _, _, h, q => by have e := (show v = .str (mkS x) from h).symm.trans (show v = .bl y from q); cases e
  | .str x, .int y, v, _, _, h, q => by have e := (show v = .str (mkS x) from h).symm.trans (show v = .int y from q); cases e
  | .str x, .str y, v, _, _, h, q => by
    have e := (show v = .str (mkS x) from h).symm.trans (show v = .str (mkS y) from q)
    injection e with e
    rw [mkS_inj e]
  | .str x, .tup l, v, _, _, h, ⟨_, _, e, _⟩ => by have e2 := (show v = .str (mkS x) from h).symm.trans e; cases e2
  | .str x, .lst l, v, _, _, h, ⟨_, _, e, _⟩ => by have e2 := (show v = .str (mkS x) from h).symm.trans e; cases e2
  | .tup l, .non, v, _, _, ⟨_, _, e, _⟩, q => by have e2 := e.symm.trans (show v = .non from q); cases e2
  | .tup l, .bl y, v, _, _, ⟨_, _, e, _⟩, q => by have e2 := e.symm.trans (show v = .bl y from q); cases e2
  | .tup l, .int y, v, _, _, ⟨_, _, e, _⟩, q => by have e2 := e.symm.trans (show v = .int y from q); cases e2
  | .tup l, .str y, v, _, _, ⟨_, _, e, _⟩, q => by have e2 := e.symm.trans (show v = .str (mkS y) from q); cases e2
  | .lst l, .non, v, _, _, ⟨_, _, e, _⟩, q => by have e2 := e.symm.trans (show v = .non from q); cases e2
  | .lst l, .bl y, v, _, _, ⟨_, _, e, _⟩, q => by have e2 := e.symm.trans (show v = .bl y from q); cases e2
  | .lst l, .int y, v, _, _, ⟨_, _, e, _⟩, q => by have e2 := e.symm.trans (show v = .int y from q); cases e2
  | .lst l, .str y, v, _, _, ⟨_, _, e, _⟩, q => by have e2 := e.symm.trans (show v = .str (mkS y) from q); cases e2
  | .tup l, .tup m, v, p1, p2, ⟨a, vs, e, g, _, r⟩, ⟨a2, vs2, e2, g2, _, r2⟩ => by
    rw [e] at e2; cases e2; rw [g] at g2; cases g2
    rw [reps_inj l m vs p1 p2 r r2]
  | .lst l, .lst m, v, p1, p2, ⟨a, vs, e, g, _, r⟩, ⟨a2, vs2, e2, g2, _, r2⟩ => by
    rw [e] at e2; cases e2; cases rd_inj g g2
    rw [reps_inj l m vs p1 p2 r r2]
  | .tup l, .lst m, v, p1, p2, ⟨a, vs, e, g, _, r⟩, ⟨a2, vs2, e2, g2, _, r2⟩ => by
    rw [e] at e2; cases e2
    rcases g2 with g2 | ⟨_, g2⟩ <;> (rw [g] at g2; cases g2)
  | .lst l, .tup m, v, p1, p2, ⟨a, vs, e, g, _, r⟩, ⟨a2, vs2, e2, g2, _, r2⟩ => by
    rw [e] at e2; cases e2
    rcases g with g | ⟨_, g⟩ <;> (rw [g] at g2; cases g2)
theorem reps_inj {H : Hp} : ∀ (a b : List D) (v : List V), D.plains a = true → D.plains b = true → Reps H a v → Reps H b v → a = b
  | [], [], _, _, _, _, _ => rfl
  | [], _ :: _, _, _, _, h, ⟨_, _, e, _⟩ => by rw [show _ = [] from h] at e; cases e
  | _ :: _, [], _, _, _, ⟨_, _, e, _⟩, h => by rw [show _ = [] from h] at e; cases e
  | a :: r, b :: q, _, p1, p2, ⟨v, vs, e, h, k⟩, ⟨v2, vs2, e2, h2, k2⟩ => by
    simp only [D.plains, Bool.and_eq_true] at p1 p2
    rw [e] at e2; cases e2
    rw [rep_inj a b v p1.1 p2.1 h h2, reps_inj r q vs p1.2 p2.2 k k2]
end
mutual
theorem eqv_refl : ∀ a : D, a.plain = true → D.eqv a a = true
  | .non, _ => rfl
  | .bl b, _ => by simp [D.eqv]
  | .int b, _ => by simp [D.eqv]
  | .str b, _ => by simp [D.eqv]
  | .tup l, p => eqvs_refl l p
  | .lst l, p => eqvs_refl l p
theorem eqvs_refl : ∀ a : List D, D.plains a = true → D.eqvs a a = true
  | [], _ => rfl
  | a :: r, p => by
    simp only [D.plains, Bool.and_eq_true] at p
    simp only [D.eqvs, eqv_refl a p.1, eqvs_refl r p.2, Bool.and_self]
end
def eqAtJ (l m : List D) (j : Nat) : Bool := D.eqv (l.getD j .non) (m.getD j .non)
theorem all_range_succ (n : Nat) (f : Nat → Bool) : (List.range (n + 1)).all f = (f 0 && (List.range n).all fun j => f (j + 1)) := by
  rw [List.range_succ_eq_map, List.all_cons, List.all_map]; rfl
theorem eqvs_eq : ∀ l m : List D, ((List.range (min l.length m.length)).all (eqAtJ l m) && l.length == m.length) = D.eqvs l m
  | [], [] => rfl
  | [], _ :: _ => rfl
  | _ :: _, [] => rfl
  | a :: r, b :: q => by
    have ih := eqvs_eq r q
    rw [List.length_cons, List.length_cons, show min (r.length + 1) (q.length + 1) = min r.length q.length + 1 by omega, all_range_succ]
    show ((D.eqv a b && (List.range (min r.length q.length)).all fun j => eqAtJ r q j) && (r.length + 1 == q.length + 1)) = (D.eqv a b && D.eqvs r q)
    rw [← ih, Bool.and_assoc]
    congr 2
    by_cases h : r.length = q.length
    · rw [h, beq_self_eq_true, beq_self_eq_true]
    · rw [beq_eq_false_iff_ne.mpr h, beq_eq_false_iff_ne.mpr (by omega)]
section
variable {X : Cx} {pins : List (Addr × Obj)} {σ : St} {H : Hp} {s : Shared}
theorem at_lst (I : Inv X pins σ H s) {l : List D} {x : V} {u : Value} (h : Rep H (.lst l) x) (r : RelV x u) : ∃ a vs its, x = .ref a ∧ u = .ref a ∧ s.heap.IsList a (its : List Value).toArray ∧ Vals vs its ∧ Reps H l vs ∧ l.length = its.length := by
  obtain ⟨a, vs, e, g, z, q⟩ := h
  subst e
  obtain ⟨its, rv, pl, _⟩ := I.list (.inl g)
  exact ⟨a, vs, its, rfl, r, pl.isList, rv, q, q.length.trans rv.length⟩
theorem at_tup (I : Inv X pins σ H s) {l : List D} {x : V} {u : Value} (h : Rep H (.tup l) x) (r : RelV x u) : ∃ a vs its, x = .ref a ∧ u = .ref a ∧ s.heap.IsTuple a (its : List Value).toArray ∧ Vals vs its ∧ Reps H l vs ∧ l.length = its.length := by
  obtain ⟨a, vs, e, g, z, q⟩ := h
  subst e
  obtain ⟨its, rv, pl, _⟩ := I.tuple (.inl (.inl g))
  exact ⟨a, vs, its, rfl, r, pl, rv, q, q.length.trans rv.length⟩
theorem in1_units (A : Around) : A.in1.units = A.units + 1 := rfl
mutual
theorem eqAt_d (I : Inv X pins σ H s) : ∀ (a b : D), ∀ (A : Around) (x y : V) (u w : Value), a.plain = true → b.plain = true → Rep H a x → Rep H b y → RelV x u → RelV y w → A.units + min a.dep b.dep < cLine → EqAt A s u w (D.eqv a b)

  | .non, .non => by
    intro A x y u w p1 p2 h k r1 r2 hu
    cases (show x = .non from h)
    cases r1
    cases (show y = .non from k)
    cases r2
    exact EqAt.same _
  | .non, .bl q => by
    intro A x y u w p1 p2 h k r1 r2 hu
    cases (show x = .non from h)
    cases r1
    cases (show y = .bl _ from k)
    cases r2
    exact EqAt.none_bool _
  | .non, .int q => by
    intro A x y u w p1 p2 h k r1 r2 hu
    cases (show x = .non from h)
    cases r1
    cases (show y = .int _ from k)
    obtain ⟨t2, rfl⟩ := r2
    exact EqAt.none_int _ t2
  | .non, .str q => by
    intro A x y u w p1 p2 h k r1 r2 hu
    cases (show x = .non from h)
    cases r1
    cases (show y = .str _ from k)
    obtain ⟨t2, rfl⟩ := r2
    exact EqAt.none_str _ t2
  | .non, .tup l => by
    intro A x y u w p1 p2 h k r1 r2 hu
    cases (show x = .non from h)
    cases r1
    obtain ⟨_, _, _, rfl, rfl, hl, _⟩ := at_tup I k r2
    exact EqAt.none_tuple hl (by omega)
  | .non, .lst l => by
    intro A x y u w p1 p2 h k r1 r2 hu
    cases (show x = .non from h)
    cases r1
    obtain ⟨_, _, _, rfl, rfl, hl, _⟩ := at_lst I k r2
    exact EqAt.none_list hl (by omega)
  | .bl p, .non => by
    intro A x y u w p1 p2 h k r1 r2 hu
    cases (show x = .bl _ from h)
    cases r1
    cases (show y = .non from k)
    cases r2
    exact EqAt.bool_none _
  | .bl p, .bl q => by
    intro A x y u w p1 p2 h k r1 r2 hu
    cases (show x = .bl _ from h)
    cases r1
    cases (show y = .bl _ from k)
    cases r2
    exact EqAt.bool_bool _ _
  | .bl p, .int q => by
    intro A x y u w p1 p2 h k r1 r2 hu
    cases (show x = .bl _ from h)
    cases r1
    cases (show y = .int _ from k)
    obtain ⟨t2, rfl⟩ := r2
    exact EqAt.bool_int _ _ t2
  | .bl p, .str q => by
    intro A x y u w p1 p2 h k r1 r2 hu
    cases (show x = .bl _ from h)
    cases r1
    cases (show y = .str _ from k)
    obtain ⟨t2, rfl⟩ := r2
    exact EqAt.bool_str _ _ t2
  | .bl p, .tup l => by
    intro A x y u w p1 p2 h k r1 r2 hu
    cases (show x = .bl _ from h)
    cases r1
    obtain ⟨_, _, _, rfl, rfl, hl, _⟩ := at_tup I k r2
    exact EqAt.bool_tuple _ hl (by omega)
  | .bl p, .lst l => by
    intro A x y u w p1 p2 h k r1 r2 hu
    cases (show x = .bl _ from h)
    cases r1
    obtain ⟨_, _, _, rfl, rfl, hl, _⟩ := at_lst I k r2
    exact EqAt.bool_list _ hl (by omega)
  | .int p, .non => by
    intro A x y u w p1 p2 h k r1 r2 hu
    cases (show x = .int _ from h)
    obtain ⟨t1, rfl⟩ := r1
    cases (show y = .non from k)
    cases r2
    exact EqAt.int_none _ t1
  | .int p, .bl q => by
    intro A x y u w p1 p2 h k r1 r2 hu
    cases (show x = .int _ from h)
    obtain ⟨t1, rfl⟩ := r1
    cases (show y = .bl _ from k)
    cases r2
    exact EqAt.int_bool _ t1 _
  | .int p, .int q => by
    intro A x y u w p1 p2 h k r1 r2 hu
    cases (show x = .int _ from h)
    obtain ⟨t1, rfl⟩ := r1
    cases (show y = .int _ from k)
    obtain ⟨t2, rfl⟩ := r2
    exact EqAt.int_int _ t1 _ t2
  | .int p, .str q => by
    intro A x y u w p1 p2 h k r1 r2 hu
    cases (show x = .int _ from h)
    obtain ⟨t1, rfl⟩ := r1
    cases (show y = .str _ from k)
    obtain ⟨t2, rfl⟩ := r2
    exact EqAt.int_str _ t1 _ t2
  | .int p, .tup l => by
    intro A x y u w p1 p2 h k r1 r2 hu
    cases (show x = .int _ from h)
    obtain ⟨t1, rfl⟩ := r1
    obtain ⟨_, _, _, rfl, rfl, hl, _⟩ := at_tup I k r2
    exact EqAt.int_tuple _ t1 hl (by omega)
  | .int p, .lst l => by
    intro A x y u w p1 p2 h k r1 r2 hu
    cases (show x = .int _ from h)
    obtain ⟨t1, rfl⟩ := r1
    obtain ⟨_, _, _, rfl, rfl, hl, _⟩ := at_lst I k r2
    exact EqAt.int_list _ t1 hl (by omega)
  | .str p, .non => by
    intro A x y u w p1 p2 h k r1 r2 hu
    cases (show x = .str _ from h)
    obtain ⟨t1, rfl⟩ := r1
    cases (show y = .non from k)
    cases r2
    exact EqAt.str_none _ t1
  | .str p, .bl q => by
    intro A x y u w p1 p2 h k r1 r2 hu
    cases (show x = .str _ from h)
    obtain ⟨t1, rfl⟩ := r1
    cases (show y = .bl _ from k)
    cases r2
    exact EqAt.str_bool _ t1 _
  | .str p, .int q => by
    intro A x y u w p1 p2 h k r1 r2 hu
    cases (show x = .str _ from h)
    obtain ⟨t1, rfl⟩ := r1
    cases (show y = .int _ from k)
    obtain ⟨t2, rfl⟩ := r2
    exact EqAt.str_int _ t1 _ t2
  | .str p, .str q => by
    intro A x y u w p1 p2 h k r1 r2 hu
    cases (show x = .str _ from h)
    obtain ⟨t1, rfl⟩ := r1
    cases (show y = .str _ from k)
    obtain ⟨t2, rfl⟩ := r2
    show EqAt A s _ _ (p == q)
    rw [← mkS_beq]
    exact EqAt.str_str _ t1 _ t2
  | .str p, .tup l => by
    intro A x y u w p1 p2 h k r1 r2 hu
    cases (show x = .str _ from h)
    obtain ⟨t1, rfl⟩ := r1
    obtain ⟨_, _, _, rfl, rfl, hl, _⟩ := at_tup I k r2
    exact EqAt.str_tuple _ t1 hl (by omega)
  | .str p, .lst l => by
    intro A x y u w p1 p2 h k r1 r2 hu
    cases (show x = .str _ from h)
    obtain ⟨t1, rfl⟩ := r1
    obtain ⟨_, _, _, rfl, rfl, hl, _⟩ := at_lst I k r2
    exact EqAt.str_list _ t1 hl (by omega)
  | .tup l, .non => by
    intro A x y u w p1 p2 h k r1 r2 hu
    cases (show y = .non from k)
    cases r2
    obtain ⟨_, _, _, rfl, rfl, hl, _⟩ := at_tup I h r1
    exact EqAt.tuple_none hl (by omega)
  | .tup l, .bl q => by
    intro A x y u w p1 p2 h k r1 r2 hu
    cases (show y = .bl _ from k)
    cases r2
    obtain ⟨_, _, _, rfl, rfl, hl, _⟩ := at_tup I h r1
    exact EqAt.tuple_bool _ hl (by omega)
  | .tup l, .int q => by
    intro A x y u w p1 p2 h k r1 r2 hu
    cases (show y = .int _ from k)
    obtain ⟨t2, rfl⟩ := r2
    obtain ⟨_, _, _, rfl, rfl, hl, _⟩ := at_tup I h r1
    exact EqAt.tuple_int _ t2 hl (by omega)
  | .tup l, .str q => by
    intro A x y u w p1 p2 h k r1 r2 hu
    cases (show y = .str _ from k)
    obtain ⟨t2, rfl⟩ := r2
    obtain ⟨_, _, _, rfl, rfl, hl, _⟩ := at_tup I h r1
    exact EqAt.tuple_str _ t2 hl (by omega)
  | .lst l, .non => by
    intro A x y u w p1 p2 h k r1 r2 hu
    cases (show y = .non from k)
    cases r2
    obtain ⟨_, _, _, rfl, rfl, hl, _⟩ := at_lst I h r1
    exact EqAt.list_none hl (by omega)
  | .lst l, .bl q => by
    intro A x y u w p1 p2 h k r1 r2 hu
    cases (show y = .bl _ from k)
    cases r2
    obtain ⟨_, _, _, rfl, rfl, hl, _⟩ := at_lst I h r1
    exact EqAt.list_bool _ hl (by omega)
  | .lst l, .int q => by
    intro A x y u w p1 p2 h k r1 r2 hu
    cases (show y = .int _ from k)
    obtain ⟨t2, rfl⟩ := r2
    obtain ⟨_, _, _, rfl, rfl, hl, _⟩ := at_lst I h r1
    exact EqAt.list_int _ t2 hl (by omega)
  | .lst l, .str q => by
    intro A x y u w p1 p2 h k r1 r2 hu
    cases (show y = .str _ from k)
    obtain ⟨t2, rfl⟩ := r2
    obtain ⟨_, _, _, rfl, rfl, hl, _⟩ := at_lst I h r1
    exact EqAt.list_str _ t2 hl (by omega)
  | .tup l, .lst m => by
    intro A x y u w p1 p2 h k r1 r2 hu
    obtain ⟨_, _, _, rfl, rfl, hl, _⟩ := at_tup I h r1
    obtain ⟨_, _, _, rfl, rfl, hm, _⟩ := at_lst I k r2
    exact EqAt.tuple_list hl hm (by omega)
  | .lst l, .tup m => by
    intro A x y u w p1 p2 h k r1 r2 hu
    obtain ⟨_, _, _, rfl, rfl, hl, _⟩ := at_lst I h r1
    obtain ⟨_, _, _, rfl, rfl, hm, _⟩ := at_tup I k r2
    exact EqAt.list_tuple hl hm (by omega)
  | .tup l, .tup m => by
    intro A x y u w p1 p2 h k r1 r2 hu
    obtain ⟨a, vs, its, ea, eu, hl, v1, q1, n1⟩ := at_tup I h r1
    obtain ⟨b, ws, its2, eb, ew, hm, v2, q2, n2⟩ := at_tup I k r2
    by_cases hab : a = b
    · subst hab
      rw [eb, ← ea] at k
      have := rep_inj (.tup l) (.tup m) x p1 p2 h k
      rw [← this, eqv_refl _ p1, eu, ew]
      exact EqAt.same _
    · rw [eu, ew]
      show EqAt A s _ _ (D.eqvs l m)
      rw [← eqvs_eq]
      simp only [D.dep] at hu
      have hA : A.units < cLine := by omega
      have z := EqAt.of_refs hab (RcAt.tuples (e := eqAtJ l m) hl hm hA fun j j1 j2 => by
        have := eqAt_ds I l m A.in1 vs ws its its2 p1 p2 q1 q2 v1 v2 (by rw [in1_units]; omega) j (by simpa using j1) (by simpa using j2)
        simpa using this)
      rw [List.size_toArray, List.size_toArray, ← n1, ← n2] at z
      exact z
  | .lst l, .lst m => by
    intro A x y u w p1 p2 h k r1 r2 hu
    obtain ⟨a, vs, its, ea, eu, hl, v1, q1, n1⟩ := at_lst I h r1
    obtain ⟨b, ws, its2, eb, ew, hm, v2, q2, n2⟩ := at_lst I k r2
    by_cases hab : a = b
    · subst hab
      rw [eb, ← ea] at k
      have := rep_inj (.lst l) (.lst m) x p1 p2 h k
      rw [← this, eqv_refl _ p1, eu, ew]
      exact EqAt.same _
    · rw [eu, ew]
      show EqAt A s _ _ (D.eqvs l m)
      rw [← eqvs_eq]
      simp only [D.dep] at hu
      have hA : A.units < cLine := by omega
      by_cases hn : its.length = its2.length
      · have z := EqAt.of_refs hab (RcAt.lists (e := eqAtJ l m) hl hm (by simpa using hn) hA fun j j1 j2 => by
          have := eqAt_ds I l m A.in1 vs ws its its2 p1 p2 q1 q2 v1 v2 (by rw [in1_units]; omega) j (by simpa using j1) (by simpa using j2)
          simpa using this)
        rw [List.size_toArray, ← n1] at z
        rw [show l.length = m.length by omega, beq_self_eq_true, Bool.and_true, Nat.min_self, ← show l.length = m.length by omega]
        exact z
      · rw [beq_eq_false_iff_ne.mpr (by omega : l.length ≠ m.length), Bool.and_false]
        exact EqAt.of_refs hab (RcAt.lists_lengths hl hm (by simpa using hn) hA)
  | .dct _ _, _ => by intro A x y u w p1 p2 h k r1 r2 hu; cases p1
  | .opq _, _ => by intro A x y u w p1 p2 h k r1 r2 hu; cases p1
  | _, .dct _ _ => by intro A x y u w p1 p2 h k r1 r2 hu; cases p2
  | _, .opq _ => by intro A x y u w p1 p2 h k r1 r2 hu; cases p2
theorem eqAt_ds (I : Inv X pins σ H s) : ∀ (l m : List D) (A : Around) (xs ys : List V) (us ws : List Value), D.plains l = true → D.plains m = true → Reps H l xs → Reps H m ys → Vals xs us → Vals ys ws → A.units + min (D.deps l) (D.deps m) < cLine →
    ∀ j (h1 : j < us.length) (h2 : j < ws.length), EqAt A s us[j] ws[j] (eqAtJ l m j)
  | [], _, _, _, _, _, _, _, _, h, _, v1, _, _, j, h1, _ => by
    cases (show _ = [] from h); cases v1; exact absurd h1 (Nat.not_lt_zero _)
  | _ :: _, [], _, _, _, _, _, _, _, _, h, _, v2, _, j, _, h2 => by
    cases (show _ = [] from h); cases v2; exact absurd h2 (Nat.not_lt_zero _)
  | a :: l, b :: m, A, _, _, _, _, p1, p2, ⟨x, xs, e1, q1, r1⟩, ⟨y, ys, e2, q2, r2⟩, v1, v2, hu, j, h1, h2 => by
    subst e1; subst e2
    simp only [D.plains, Bool.and_eq_true] at p1 p2
    simp only [D.deps] at hu
    cases v1 with
    | cons z1 v1 =>
      cases v2 with
      | cons z2 v2 =>
        cases j with
        | zero => exact eqAt_d I a b A x y _ _ p1.1 p2.1 q1 q2 z1 z2 (by omega)
        | succ j => exact eqAt_ds I l m A xs ys _ _ p1.2 p2.2 r1 r2 v1 v2 (by omega) j (Nat.lt_of_succ_lt_succ h1) (Nat.lt_of_succ_lt_succ h2)
end

theorem rcEq_d (I : Inv X pins σ H s) : ∀ (a b : D), ∀ (A : Around) (x y : V) (u w : Value), a.plain = true → b.plain = true → Rep H a x → Rep H b y → RelV x u → RelV y w → A.units + min a.dep b.dep < cLine → RcAt A s u w (D.eqv a b)
  | .non, .non => by
    intro A x y u w p1 p2 h k r1 r2 hu
    cases (show x = .non from h)
    cases r1
    cases (show y = .non from k)
    cases r2
    exact RcAt.none_none
  | .non, .bl q => by
    intro A x y u w p1 p2 h k r1 r2 hu
    cases (show x = .non from h)
    cases r1
    cases (show y = .bl _ from k)
    cases r2
    exact RcAt.none_bool _
  | .non, .int q => by
    intro A x y u w p1 p2 h k r1 r2 hu
    cases (show x = .non from h)
    cases r1
    cases (show y = .int _ from k)
    obtain ⟨t2, rfl⟩ := r2
    exact RcAt.none_int _ t2
  | .non, .str q => by
    intro A x y u w p1 p2 h k r1 r2 hu
    cases (show x = .non from h)
    cases r1
    cases (show y = .str _ from k)
    obtain ⟨t2, rfl⟩ := r2
    exact RcAt.none_str _ t2
  | .non, .tup l => by
    intro A x y u w p1 p2 h k r1 r2 hu
    cases (show x = .non from h)
    cases r1
    obtain ⟨_, _, _, rfl, rfl, hl, _⟩ := at_tup I k r2
    exact RcAt.none_tuple hl (by omega)
  | .non, .lst l => by
    intro A x y u w p1 p2 h k r1 r2 hu
    cases (show x = .non from h)
    cases r1
    obtain ⟨_, _, _, rfl, rfl, hl, _⟩ := at_lst I k r2
    exact RcAt.none_list hl (by omega)
  | .bl p, .non => by
    intro A x y u w p1 p2 h k r1 r2 hu
    cases (show x = .bl _ from h)
    cases r1
    cases (show y = .non from k)
    cases r2
    exact RcAt.bool_none _
  | .bl p, .bl q => by
    intro A x y u w p1 p2 h k r1 r2 hu
    cases (show x = .bl _ from h)
    cases r1
    cases (show y = .bl _ from k)
    cases r2
    exact RcAt.bool_bool _ _
  | .bl p, .int q => by
    intro A x y u w p1 p2 h k r1 r2 hu
    cases (show x = .bl _ from h)
    cases r1
    cases (show y = .int _ from k)
    obtain ⟨t2, rfl⟩ := r2
    exact RcAt.bool_int _ _ t2
  | .bl p, .str q => by
    intro A x y u w p1 p2 h k r1 r2 hu
    cases (show x = .bl _ from h)
    cases r1
    cases (show y = .str _ from k)
    obtain ⟨t2, rfl⟩ := r2
    exact RcAt.bool_str _ _ t2
  | .bl p, .tup l => by
    intro A x y u w p1 p2 h k r1 r2 hu
    cases (show x = .bl _ from h)
    cases r1
    obtain ⟨_, _, _, rfl, rfl, hl, _⟩ := at_tup I k r2
    exact RcAt.bool_tuple _ hl (by omega)
  | .bl p, .lst l => by
    intro A x y u w p1 p2 h k r1 r2 hu
    cases (show x = .bl _ from h)
    cases r1
    obtain ⟨_, _, _, rfl, rfl, hl, _⟩ := at_lst I k r2
    exact RcAt.bool_list _ hl (by omega)
  | .int p, .non => by
    intro A x y u w p1 p2 h k r1 r2 hu
    cases (show x = .int _ from h)
    obtain ⟨t1, rfl⟩ := r1
    cases (show y = .non from k)
    cases r2
    exact RcAt.int_none _ t1
  | .int p, .bl q => by
    intro A x y u w p1 p2 h k r1 r2 hu
    cases (show x = .int _ from h)
    obtain ⟨t1, rfl⟩ := r1
    cases (show y = .bl _ from k)
    cases r2
    exact RcAt.int_bool _ t1 _
  | .int p, .int q => by
    intro A x y u w p1 p2 h k r1 r2 hu
    cases (show x = .int _ from h)
    obtain ⟨t1, rfl⟩ := r1
    cases (show y = .int _ from k)
    obtain ⟨t2, rfl⟩ := r2
    exact RcAt.int_int _ t1 _ t2
  | .int p, .str q => by
    intro A x y u w p1 p2 h k r1 r2 hu
    cases (show x = .int _ from h)
    obtain ⟨t1, rfl⟩ := r1
    cases (show y = .str _ from k)
    obtain ⟨t2, rfl⟩ := r2
    exact RcAt.int_str _ t1 _ t2
  | .int p, .tup l => by
    intro A x y u w p1 p2 h k r1 r2 hu
    cases (show x = .int _ from h)
    obtain ⟨t1, rfl⟩ := r1
    obtain ⟨_, _, _, rfl, rfl, hl, _⟩ := at_tup I k r2
    exact RcAt.int_tuple _ t1 hl (by omega)
  | .int p, .lst l => by
    intro A x y u w p1 p2 h k r1 r2 hu
    cases (show x = .int _ from h)
    obtain ⟨t1, rfl⟩ := r1
    obtain ⟨_, _, _, rfl, rfl, hl, _⟩ := at_lst I k r2
    exact RcAt.int_list _ t1 hl (by omega)
  | .str p, .non => by
    intro A x y u w p1 p2 h k r1 r2 hu
    cases (show x = .str _ from h)
    obtain ⟨t1, rfl⟩ := r1
    cases (show y = .non from k)
    cases r2
    exact RcAt.str_none _ t1
  | .str p, .bl q => by
    intro A x y u w p1 p2 h k r1 r2 hu
    cases (show x = .str _ from h)
    obtain ⟨t1, rfl⟩ := r1
    cases (show y = .bl _ from k)
    cases r2
    exact RcAt.str_bool _ t1 _
  | .str p, .int q => by
    intro A x y u w p1 p2 h k r1 r2 hu
    cases (show x = .str _ from h)
    obtain ⟨t1, rfl⟩ := r1
    cases (show y = .int _ from k)
    obtain ⟨t2, rfl⟩ := r2
    exact RcAt.str_int _ t1 _ t2
  | .str p, .str q => by
    intro A x y u w p1 p2 h k r1 r2 hu
    cases (show x = .str _ from h)
    obtain ⟨t1, rfl⟩ := r1
    cases (show y = .str _ from k)
    obtain ⟨t2, rfl⟩ := r2
    show RcAt A s _ _ (p == q)
    rw [← mkS_beq]
    exact RcAt.str_str _ t1 _ t2
  | .str p, .tup l => by
    intro A x y u w p1 p2 h k r1 r2 hu
    cases (show x = .str _ from h)
    obtain ⟨t1, rfl⟩ := r1
    obtain ⟨_, _, _, rfl, rfl, hl, _⟩ := at_tup I k r2
    exact RcAt.str_tuple _ t1 hl (by omega)
  | .str p, .lst l => by
    intro A x y u w p1 p2 h k r1 r2 hu
    cases (show x = .str _ from h)
    obtain ⟨t1, rfl⟩ := r1
    obtain ⟨_, _, _, rfl, rfl, hl, _⟩ := at_lst I k r2
    exact RcAt.str_list _ t1 hl (by omega)
  | .tup l, .non => by
    intro A x y u w p1 p2 h k r1 r2 hu
    cases (show y = .non from k)
    cases r2
    obtain ⟨_, _, _, rfl, rfl, hl, _⟩ := at_tup I h r1
    exact RcAt.tuple_none hl (by omega)
  | .tup l, .bl q => by
    intro A x y u w p1 p2 h k r1 r2 hu
    cases (show y = .bl _ from k)
    cases r2
    obtain ⟨_, _, _, rfl, rfl, hl, _⟩ := at_tup I h r1
    exact RcAt.tuple_bool _ hl (by omega)
  | .tup l, .int q => by
    intro A x y u w p1 p2 h k r1 r2 hu
    cases (show y = .int _ from k)
    obtain ⟨t2, rfl⟩ := r2
    obtain ⟨_, _, _, rfl, rfl, hl, _⟩ := at_tup I h r1
    exact RcAt.tuple_int _ t2 hl (by omega)
  | .tup l, .str q => by
    intro A x y u w p1 p2 h k r1 r2 hu
    cases (show y = .str _ from k)
    obtain ⟨t2, rfl⟩ := r2
    obtain ⟨_, _, _, rfl, rfl, hl, _⟩ := at_tup I h r1
    exact RcAt.tuple_str _ t2 hl (by omega)
  | .lst l, .non => by
    intro A x y u w p1 p2 h k r1 r2 hu
    cases (show y = .non from k)
    cases r2
    obtain ⟨_, _, _, rfl, rfl, hl, _⟩ := at_lst I h r1
    exact RcAt.list_none hl (by omega)
  | .lst l, .bl q => by
    intro A x y u w p1 p2 h k r1 r2 hu
    cases (show y = .bl _ from k)
    cases r2
    obtain ⟨_, _, _, rfl, rfl, hl, _⟩ := at_lst I h r1
    exact RcAt.list_bool _ hl (by omega)
  | .lst l, .int q => by
    intro A x y u w p1 p2 h k r1 r2 hu
    cases (show y = .int _ from k)
    obtain ⟨t2, rfl⟩ := r2
    obtain ⟨_, _, _, rfl, rfl, hl, _⟩ := at_lst I h r1
    exact RcAt.list_int _ t2 hl (by omega)
  | .lst l, .str q => by
    intro A x y u w p1 p2 h k r1 r2 hu
    cases (show y = .str _ from k)
    obtain ⟨t2, rfl⟩ := r2
    obtain ⟨_, _, _, rfl, rfl, hl, _⟩ := at_lst I h r1
    exact RcAt.list_str _ t2 hl (by omega)
  | .tup l, .lst m => by
    intro A x y u w p1 p2 h k r1 r2 hu
    obtain ⟨_, _, _, rfl, rfl, hl, _⟩ := at_tup I h r1
    obtain ⟨_, _, _, rfl, rfl, hm, _⟩ := at_lst I k r2
    exact RcAt.tuple_list hl hm (by omega)
  | .lst l, .tup m => by
    intro A x y u w p1 p2 h k r1 r2 hu
    obtain ⟨_, _, _, rfl, rfl, hl, _⟩ := at_lst I h r1
    obtain ⟨_, _, _, rfl, rfl, hm, _⟩ := at_tup I k r2
    exact RcAt.list_tuple hl hm (by omega)
  | .tup l, .tup m => by
    intro A x y u w p1 p2 h k r1 r2 hu
    obtain ⟨a, vs, its, ea, eu, hl, v1, q1, n1⟩ := at_tup I h r1
    obtain ⟨b, ws, its2, eb, ew, hm, v2, q2, n2⟩ := at_tup I k r2
    rw [eu, ew]
    show RcAt A s _ _ (D.eqvs l m)
    rw [← eqvs_eq]
    simp only [D.dep] at hu
    have hA : A.units < cLine := by omega
    have z := RcAt.tuples (e := eqAtJ l m) hl hm hA fun j j1 j2 => by
      have := eqAt_ds I l m A.in1 vs ws its its2 p1 p2 q1 q2 v1 v2 (by rw [in1_units]; omega) j (by simpa using j1) (by simpa using j2)
      simpa using this
    rw [List.size_toArray, List.size_toArray, ← n1, ← n2] at z
    exact z
  | .lst l, .lst m => by
    intro A x y u w p1 p2 h k r1 r2 hu
    obtain ⟨a, vs, its, ea, eu, hl, v1, q1, n1⟩ := at_lst I h r1
    obtain ⟨b, ws, its2, eb, ew, hm, v2, q2, n2⟩ := at_lst I k r2
    rw [eu, ew]
    show RcAt A s _ _ (D.eqvs l m)
    rw [← eqvs_eq]
    simp only [D.dep] at hu
    have hA : A.units < cLine := by omega
    by_cases hn : its.length = its2.length
    · have z := RcAt.lists (e := eqAtJ l m) hl hm (by simpa using hn) hA fun j j1 j2 => by
        have := eqAt_ds I l m A.in1 vs ws its its2 p1 p2 q1 q2 v1 v2 (by rw [in1_units]; omega) j (by simpa using j1) (by simpa using j2)
        simpa using this
      rw [List.size_toArray, ← n1] at z
      rw [show l.length = m.length by omega, beq_self_eq_true, Bool.and_true, Nat.min_self, ← show l.length = m.length by omega]
      exact z
    · rw [beq_eq_false_iff_ne.mpr (by omega : l.length ≠ m.length), Bool.and_false]
      exact RcAt.lists_lengths hl hm (by simpa using hn) hA
  | .dct _ _, _ => by intro A x y u w p1 p2 h k r1 r2 hu; cases p1
  | .opq _, _ => by intro A x y u w p1 p2 h k r1 r2 hu; cases p1
  | _, .dct _ _ => by intro A x y u w p1 p2 h k r1 r2 hu; cases p2
  | _, .opq _ => by intro A x y u w p1 p2 h k r1 r2 hu; cases p2
theorem rcNe_d (I : Inv X pins σ H s) : ∀ (a b : D), ∀ (A : Around) (x y : V) (u w : Value), a.plain = true → b.plain = true → Rep H a x → Rep H b y → RelV x u → RelV y w → A.units + min a.dep b.dep < cLine → RcNeAt A s u w (!(D.eqv a b))
  | .non, .non => by
    intro A x y u w p1 p2 h k r1 r2 hu
    cases (show x = .non from h)
    cases r1
    cases (show y = .non from k)
    cases r2
    exact RcNeAt.none_none
  | .non, .bl q => by
    intro A x y u w p1 p2 h k r1 r2 hu
    cases (show x = .non from h)
    cases r1
    cases (show y = .bl _ from k)
    cases r2
    exact RcNeAt.none_bool _
  | .non, .int q => by
    intro A x y u w p1 p2 h k r1 r2 hu
    cases (show x = .non from h)
    cases r1
    cases (show y = .int _ from k)
    obtain ⟨t2, rfl⟩ := r2
    exact RcNeAt.none_int _ t2
  | .non, .str q => by
    intro A x y u w p1 p2 h k r1 r2 hu
    cases (show x = .non from h)
    cases r1
    cases (show y = .str _ from k)
    obtain ⟨t2, rfl⟩ := r2
    exact RcNeAt.none_str _ t2
  | .non, .tup l => by
    intro A x y u w p1 p2 h k r1 r2 hu
    cases (show x = .non from h)
    cases r1
    obtain ⟨_, _, _, rfl, rfl, hl, _⟩ := at_tup I k r2
    exact RcNeAt.none_tuple hl (by omega)
  | .non, .lst l => by
    intro A x y u w p1 p2 h k r1 r2 hu
    cases (show x = .non from h)
    cases r1
    obtain ⟨_, _, _, rfl, rfl, hl, _⟩ := at_lst I k r2
    exact RcNeAt.none_list hl (by omega)
  | .bl p, .non => by
    intro A x y u w p1 p2 h k r1 r2 hu
    cases (show x = .bl _ from h)
    cases r1
    cases (show y = .non from k)
    cases r2
    exact RcNeAt.bool_none _
  | .bl p, .bl q => by
    intro A x y u w p1 p2 h k r1 r2 hu
    cases (show x = .bl _ from h)
    cases r1
    cases (show y = .bl _ from k)
    cases r2
    exact RcNeAt.bool_bool _ _
  | .bl p, .int q => by
    intro A x y u w p1 p2 h k r1 r2 hu
    cases (show x = .bl _ from h)
    cases r1
    cases (show y = .int _ from k)
    obtain ⟨t2, rfl⟩ := r2
    exact RcNeAt.bool_int _ _ t2
  | .bl p, .str q => by
    intro A x y u w p1 p2 h k r1 r2 hu
    cases (show x = .bl _ from h)
    cases r1
    cases (show y = .str _ from k)
    obtain ⟨t2, rfl⟩ := r2
    exact RcNeAt.bool_str _ _ t2
  | .bl p, .tup l => by
    intro A x y u w p1 p2 h k r1 r2 hu
    cases (show x = .bl _ from h)
    cases r1
    obtain ⟨_, _, _, rfl, rfl, hl, _⟩ := at_tup I k r2
    exact RcNeAt.bool_tuple _ hl (by omega)
  | .bl p, .lst l => by
    intro A x y u w p1 p2 h k r1 r2 hu
    cases (show x = .bl _ from h)
    cases r1
    obtain ⟨_, _, _, rfl, rfl, hl, _⟩ := at_lst I k r2
    exact RcNeAt.bool_list _ hl (by omega)
  | .int p, .non => by
    intro A x y u w p1 p2 h k r1 r2 hu
    cases (show x = .int _ from h)
    obtain ⟨t1, rfl⟩ := r1
    cases (show y = .non from k)
    cases r2
    exact RcNeAt.int_none _ t1
  | .int p, .bl q => by
    intro A x y u w p1 p2 h k r1 r2 hu
    cases (show x = .int _ from h)
    obtain ⟨t1, rfl⟩ := r1
    cases (show y = .bl _ from k)
    cases r2
    exact RcNeAt.int_bool _ t1 _
  | .int p, .int q => by
    intro A x y u w p1 p2 h k r1 r2 hu
    cases (show x = .int _ from h)
    obtain ⟨t1, rfl⟩ := r1
    cases (show y = .int _ from k)
    obtain ⟨t2, rfl⟩ := r2
    exact RcNeAt.int_int _ t1 _ t2
  | .int p, .str q => by
    intro A x y u w p1 p2 h k r1 r2 hu
    cases (show x = .int _ from h)
    obtain ⟨t1, rfl⟩ := r1
    cases (show y = .str _ from k)
    obtain ⟨t2, rfl⟩ := r2
    exact RcNeAt.int_str _ t1 _ t2
  | .int p, .tup l => by
    intro A x y u w p1 p2 h k r1 r2 hu
    cases (show x = .int _ from h)
    obtain ⟨t1, rfl⟩ := r1
    obtain ⟨_, _, _, rfl, rfl, hl, _⟩ := at_tup I k r2
    exact RcNeAt.int_tuple _ t1 hl (by omega)
  | .int p, .lst l => by
    intro A x y u w p1 p2 h k r1 r2 hu
    cases (show x = .int _ from h)
    obtain ⟨t1, rfl⟩ := r1
    obtain ⟨_, _, _, rfl, rfl, hl, _⟩ := at_lst I k r2
    exact RcNeAt.int_list _ t1 hl (by omega)
  | .str p, .non => by
    intro A x y u w p1 p2 h k r1 r2 hu
    cases (show x = .str _ from h)
    obtain ⟨t1, rfl⟩ := r1
    cases (show y = .non from k)
    cases r2
    exact RcNeAt.str_none _ t1
  | .str p, .bl q => by
    intro A x y u w p1 p2 h k r1 r2 hu
    cases (show x = .str _ from h)
    obtain ⟨t1, rfl⟩ := r1
    cases (show y = .bl _ from k)
    cases r2
    exact RcNeAt.str_bool _ t1 _
  | .str p, .int q => by
    intro A x y u w p1 p2 h k r1 r2 hu
    cases (show x = .str _ from h)
    obtain ⟨t1, rfl⟩ := r1
    cases (show y = .int _ from k)
    obtain ⟨t2, rfl⟩ := r2
    exact RcNeAt.str_int _ t1 _ t2
  | .str p, .str q => by
    intro A x y u w p1 p2 h k r1 r2 hu
    cases (show x = .str _ from h)
    obtain ⟨t1, rfl⟩ := r1
    cases (show y = .str _ from k)
    obtain ⟨t2, rfl⟩ := r2
    show RcNeAt A s _ _ (!(p == q))
    rw [← mkS_beq]
    exact RcNeAt.str_str _ t1 _ t2
  | .str p, .tup l => by
    intro A x y u w p1 p2 h k r1 r2 hu
    cases (show x = .str _ from h)
    obtain ⟨t1, rfl⟩ := r1
    obtain ⟨_, _, _, rfl, rfl, hl, _⟩ := at_tup I k r2
    exact RcNeAt.str_tuple _ t1 hl (by omega)
  | .str p, .lst l => by
    intro A x y u w p1 p2 h k r1 r2 hu
    cases (show x = .str _ from h)
    obtain ⟨t1, rfl⟩ := r1
    obtain ⟨_, _, _, rfl, rfl, hl, _⟩ := at_lst I k r2
    exact RcNeAt.str_list _ t1 hl (by omega)
  | .tup l, .non => by
    intro A x y u w p1 p2 h k r1 r2 hu
    cases (show y = .non from k)
    cases r2
    obtain ⟨_, _, _, rfl, rfl, hl, _⟩ := at_tup I h r1
    exact RcNeAt.tuple_none hl (by omega)
  | .tup l, .bl q => by
    intro A x y u w p1 p2 h k r1 r2 hu
    cases (show y = .bl _ from k)
    cases r2
    obtain ⟨_, _, _, rfl, rfl, hl, _⟩ := at_tup I h r1
    exact RcNeAt.tuple_bool _ hl (by omega)
  | .tup l, .int q => by
    intro A x y u w p1 p2 h k r1 r2 hu
    cases (show y = .int _ from k)
    obtain ⟨t2, rfl⟩ := r2
    obtain ⟨_, _, _, rfl, rfl, hl, _⟩ := at_tup I h r1
    exact RcNeAt.tuple_int _ t2 hl (by omega)
  | .tup l, .str q => by
    intro A x y u w p1 p2 h k r1 r2 hu
    cases (show y = .str _ from k)
    obtain ⟨t2, rfl⟩ := r2
    obtain ⟨_, _, _, rfl, rfl, hl, _⟩ := at_tup I h r1
    exact RcNeAt.tuple_str _ t2 hl (by omega)
  | .lst l, .non => by
    intro A x y u w p1 p2 h k r1 r2 hu
    cases (show y = .non from k)
    cases r2
    obtain ⟨_, _, _, rfl, rfl, hl, _⟩ := at_lst I h r1
    exact RcNeAt.list_none hl (by omega)
  | .lst l, .bl q => by
    intro A x y u w p1 p2 h k r1 r2 hu
    cases (show y = .bl _ from k)
    cases r2
    obtain ⟨_, _, _, rfl, rfl, hl, _⟩ := at_lst I h r1
    exact RcNeAt.list_bool _ hl (by omega)
  | .lst l, .int q => by
    intro A x y u w p1 p2 h k r1 r2 hu
    cases (show y = .int _ from k)
    obtain ⟨t2, rfl⟩ := r2
    obtain ⟨_, _, _, rfl, rfl, hl, _⟩ := at_lst I h r1
    exact RcNeAt.list_int _ t2 hl (by omega)
  | .lst l, .str q => by
    intro A x y u w p1 p2 h k r1 r2 hu
    cases (show y = .str _ from k)
    obtain ⟨t2, rfl⟩ := r2
    obtain ⟨_, _, _, rfl, rfl, hl, _⟩ := at_lst I h r1
    exact RcNeAt.list_str _ t2 hl (by omega)
  | .tup l, .lst m => by
    intro A x y u w p1 p2 h k r1 r2 hu
    obtain ⟨_, _, _, rfl, rfl, hl, _⟩ := at_tup I h r1
    obtain ⟨_, _, _, rfl, rfl, hm, _⟩ := at_lst I k r2
    exact RcNeAt.tuple_list hl hm (by omega)
  | .lst l, .tup m => by
    intro A x y u w p1 p2 h k r1 r2 hu
    obtain ⟨_, _, _, rfl, rfl, hl, _⟩ := at_lst I h r1
    obtain ⟨_, _, _, rfl, rfl, hm, _⟩ := at_tup I k r2
    exact RcNeAt.list_tuple hl hm (by omega)
  | .tup l, .tup m => by
    intro A x y u w p1 p2 h k r1 r2 hu
    obtain ⟨a, vs, its, ea, eu, hl, v1, q1, n1⟩ := at_tup I h r1
    obtain ⟨b, ws, its2, eb, ew, hm, v2, q2, n2⟩ := at_tup I k r2
    rw [eu, ew]
    show RcNeAt A s _ _ (!(D.eqvs l m))
    rw [← eqvs_eq]
    simp only [D.dep] at hu
    have hA : A.units < cLine := by omega
    have z := RcNeAt.tuples (e := eqAtJ l m) hl hm hA fun j j1 j2 => by
      have := eqAt_ds I l m A.in1 vs ws its its2 p1 p2 q1 q2 v1 v2 (by rw [in1_units]; omega) j (by simpa using j1) (by simpa using j2)
      simpa using this
    rw [List.size_toArray, List.size_toArray, ← n1, ← n2] at z
    exact z
  | .lst l, .lst m => by
    intro A x y u w p1 p2 h k r1 r2 hu
    obtain ⟨a, vs, its, ea, eu, hl, v1, q1, n1⟩ := at_lst I h r1
    obtain ⟨b, ws, its2, eb, ew, hm, v2, q2, n2⟩ := at_lst I k r2
    rw [eu, ew]
    show RcNeAt A s _ _ (!(D.eqvs l m))
    rw [← eqvs_eq]
    simp only [D.dep] at hu
    have hA : A.units < cLine := by omega
    by_cases hn : its.length = its2.length
    · have z := RcNeAt.lists (e := eqAtJ l m) hl hm (by simpa using hn) hA fun j j1 j2 => by
        have := eqAt_ds I l m A.in1 vs ws its its2 p1 p2 q1 q2 v1 v2 (by rw [in1_units]; omega) j (by simpa using j1) (by simpa using j2)
        simpa using this
      rw [List.size_toArray, ← n1] at z
      rw [show l.length = m.length by omega, beq_self_eq_true, Bool.and_true, Nat.min_self, ← show l.length = m.length by omega]
      exact z
    · rw [beq_eq_false_iff_ne.mpr (by omega : l.length ≠ m.length), Bool.and_false]
      exact RcNeAt.lists_lengths hl hm (by simpa using hn) hA
  | .dct _ _, _ => by intro A x y u w p1 p2 h k r1 r2 hu; cases p1
  | .opq _, _ => by intro A x y u w p1 p2 h k r1 r2 hu; cases p1
  | _, .dct _ _ => by intro A x y u w p1 p2 h k r1 r2 hu; cases p2
  | _, .opq _ => by intro A x y u w p1 p2 h k r1 r2 hu; cases p2
end
def eqD (a b : D) : Option Bool := if a.plain = true ∧ b.plain = true ∧ min a.dep b.dep ≤ 60 then some (D.eqv a b) else none
def neD (a b : D) : Option Bool := (eqD a b).map not
def rEqM : R2 := fun x y H Q => ∃ a b, Rep H a x ∧ Rep H b y ∧ a.plain = true ∧ b.plain = true ∧ min a.dep b.dep ≤ 60 ∧ Q (.bl (D.eqv a b)) H
def rNeM : R2 := fun x y H Q => ∃ a b, Rep H a x ∧ Rep H b y ∧ a.plain = true ∧ b.plain = true ∧ min a.dep b.dep ≤ 60 ∧ Q (.bl (!D.eqv a b)) H
theorem op_eqM {X : Cx} (hu : X.A.units + 64 < cLine) : OpR X (compareOp .Eq) rEqM := by
  intro pins s σ H x y v u Q I rx ry h
  obtain ⟨a, b, ha, hb, p1, p2, dp, q⟩ := h
  exact rcEq_d I a b X.A x y v u p1 p2 ha hb rx ry (by omega) X.prog X.w X.xe _ ⟨.bl _, H, I, rfl, q⟩
theorem op_neM {X : Cx} (hu : X.A.units + 64 < cLine) : OpR X (compareOp .NotEq) rNeM := by
  intro pins s σ H x y v u Q I rx ry h
  obtain ⟨a, b, ha, hb, p1, p2, dp, q⟩ := h
  exact rcNe_d I a b X.A x y v u p1 p2 ha hb rx ry (by omega) X.prog X.w X.xe _ ⟨.bl _, H, I, rfl, q⟩
theorem o_eq : Op2B rEqM eqD := fun H x y a b c Q ra rb e q => by
  unfold eqD at e
  split at e
  · cases e
    rename_i h
    exact ⟨a, b, ra, rb, h.1, h.2.1, h.2.2, q⟩
  · cases e
theorem o_ne : Op2B rNeM neD := fun H x y a b c Q ra rb e q => by
  unfold neD eqD at e
  split at e
  · cases e
    rename_i h
    exact ⟨a, b, ra, rb, h.1, h.2.1, h.2.2, q⟩
  · cases e
end VL

namespace VL
open PySem L2

theorem mkS_app (a b : List Nat) : mkS a ++ mkS b = mkS (a ++ b) := by
  show PySem.Str.append (mkS a) (mkS b) = _
  simp [mkS, PySem.Str.append]
/-! whole numbers, texts -/
def addD : D → D → Option D
  | .int a, .int b => some (.int (a + b))
  | .str a, .str b => if a.length + b.length ≤ 16777216 then some (.str (a ++ b)) else none
  | _, _ => none
def subD : D → D → Option D | .int a, .int b => some (.int (a - b)) | _, _ => none
def mulD : D → D → Option D
  | .int a, .int b => if (-18446744073709551616 < a ∧ a < 18446744073709551616) ∨ (-18446744073709551616 < b ∧ b < 18446744073709551616) then some (.int (a * b)) else none
  | _, _ => none
def modD : D → D → Option D | .int a, .int b => if 0 < b then some (.int (a % b)) else none | _, _ => none
def fdivD : D → D → Option D | .int a, .int b => if 0 < b ∧ b < 1073741824 then some (.int (a / b)) else none | _, _ => none
def powD : D → D → Option D | .int a, .int b => if 0 ≤ b ∧ b ≤ 1000000 ∧ a.natAbs < 18446744073709551616 then some (.int (a ^ b.toNat)) else none | _, _ => none
def negD : D → Option D | .int a => some (.int (-a)) | _ => none
def rAddA : R2 := fun x y H Q => rI0 (fun i j => .int (i + j)) x y H Q ∨ (∃ i j, x = .str i ∧ y = .str j ∧ i.length + j.length ≤ sizeLine ∧ Q (.str (i ++ j)) H)
theorem op_addA {X : Cx} : OpR X (binaryOp .Add) rAddA := op_add.or op_add_str
theorem o_add : Op2C rAddA addD := fun G H x y a b c Q sm ra rb e q => by
  cases a <;> cases b <;> try (cases e; done)
  · cases e
    exact .inl ⟨_, _, ra, rb, q _ rfl⟩
  · simp only [addD] at e
    split at e
    · cases e
      rename_i i j h
      refine .inr ⟨_, _, ra, rb, by rw [mkS_len, mkS_len, sizeLine_eq]; exact h, ?_⟩
      rw [mkS_app]
      exact q _ rfl
    · cases e
theorem o_sub : Op2C (rI0 fun i j => .int (i - j)) subD := fun G H x y a b c Q sm ra rb e q => by
  cases a <;> cases b <;> try (cases e; done)
  cases e
  exact ⟨_, _, ra, rb, q _ rfl⟩
theorem o_mul : Op2C (rI CMul fun i j => .int (i * j)) mulD := fun G H x y a b c Q sm ra rb e q => by
  cases a <;> cases b <;> try (cases e; done)
  simp only [mulD] at e
  split at e
  · cases e
    rename_i i j h
    exact ⟨_, _, ra, rb, h, q _ rfl⟩
  · cases e
theorem o_mod : Op2C (rI (fun _ j => 0 < j) fun i j => .int (i % j)) modD := fun G H x y a b c Q sm ra rb e q => by
  cases a <;> cases b <;> try (cases e; done)
  simp only [modD] at e
  split at e
  · cases e
    rename_i i j h
    exact ⟨_, _, ra, rb, h, q _ rfl⟩
  · cases e
theorem o_fdiv : Op2C (rI CDiv fun i j => .int (i / j)) fdivD := fun G H x y a b c Q sm ra rb e q => by
  cases a <;> cases b <;> try (cases e; done)
  simp only [fdivD] at e
  split at e
  · cases e
    rename_i i j h
    exact ⟨_, _, ra, rb, h, q _ rfl⟩
  · cases e
theorem o_pow : Op2C (rI CPow fun i j => .int (i ^ j.toNat)) powD := fun G H x y a b c Q sm ra rb e q => by
  cases a <;> cases b <;> try (cases e; done)
  simp only [powD] at e
  split at e
  · cases e
    rename_i i j h
    exact ⟨_, _, ra, rb, h, q _ rfl⟩
  · cases e
theorem o_neg : Op1C (rU fun i => .int (-i)) negD := fun G H x a c Q sm ra e q => by
  cases a <;> try (cases e; done)
  cases e
  exact ⟨_, ra, q _ rfl⟩
/-! comparisons -/
def ltD : D → D → Option Bool | .int a, .int b => some (decide (a < b)) | .str a, .str b => some (decide (a < b)) | _, _ => none
def leD : D → D → Option Bool | .int a, .int b => some (decide (a ≤ b)) | _, _ => none
def gtD : D → D → Option Bool | .int a, .int b => some (decide (b < a)) | _, _ => none
def geD : D → D → Option Bool | .int a, .int b => some (decide (b ≤ a)) | _, _ => none
def rLtA : R2 := fun x y H Q => rI0 (fun i j => .bl (decide (i < j))) x y H Q ∨ (∃ i j, x = .str i ∧ y = .str j ∧ Q (.bl (decide (i.cps.toList < j.cps.toList))) H)
theorem op_ltA {X : Cx} : OpR X (compareOp .Lt) rLtA := op_lt.or op_lt_str
theorem o_lt : Op2B rLtA ltD := fun H x y a b c Q ra rb e q => by
  cases a <;> cases b <;> try (cases e; done)
  · cases e; exact .inl ⟨_, _, ra, rb, q⟩
  · cases e
    refine .inr ⟨_, _, ra, rb, ?_⟩
    rw [mkS_cps, mkS_cps]
    exact q
theorem o_le : Op2B (rI0 fun i j => .bl (decide (i ≤ j))) leD := fun H x y a b c Q ra rb e q => by
  cases a <;> cases b <;> try (cases e; done)
  cases e; exact ⟨_, _, ra, rb, q⟩
theorem o_gt : Op2B (rI0 fun i j => .bl (decide (j < i))) gtD := fun H x y a b c Q ra rb e q => by
  cases a <;> cases b <;> try (cases e; done)
  cases e; exact ⟨_, _, ra, rb, q⟩
theorem o_ge : Op2B (rI0 fun i j => .bl (decide (j ≤ i))) geD := fun H x y a b c Q ra rb e q => by
  cases a <;> cases b <;> try (cases e; done)
  cases e; exact ⟨_, _, ra, rb, q⟩
def isNoneD : D → Option Bool | .non => some true | .opq _ => none | _ => some false
theorem isNone_ok {H : Hp} {a : D} {x : V} {c : Bool} (ra : Rep H a x) (e : isNoneD a = some c) : decide (x = .non) = c := by
  cases a with
  | non => cases e; rw [show x = .non from ra]; rfl
  | bl _ => cases e; rw [show x = .bl _ from ra]; rfl
  | int _ => cases e; rw [show x = .int _ from ra]; rfl
  | str _ => cases e; rw [show x = .str _ from ra]; rfl
  | tup _ => cases e; obtain ⟨_, _, e, _⟩ := ra; rw [e]; rfl
  | lst _ => cases e; obtain ⟨_, _, e, _⟩ := ra; rw [e]; rfl
  | dct k _ => cases e; cases k <;> (obtain ⟨_, _, e, _⟩ := ra; rw [e]; rfl)
  | opq _ => cases e
theorem o_isN : Op2B (fun x y H Q => y = .non ∧ Q (.bl (decide (x = .non))) H) (fun a b => match b with | .non => isNoneD a | _ => none) := fun H x y a b c Q ra rb e q => by
  cases b <;> try (cases e; done)
  exact ⟨rb, by rw [isNone_ok ra e]; exact q⟩
theorem o_notN : Op2B (fun x y H Q => y = .non ∧ Q (.bl (!decide (x = .non))) H) (fun a b => match b with | .non => (isNoneD a).map not | _ => none) := fun H x y a b c Q ra rb e q => by
  cases b <;> try (cases e; done)
  refine ⟨rb, ?_⟩
  cases e2 : isNoneD a with
  | none => simp [e2] at e
  | some k =>
    simp [e2] at e
    rw [isNone_ok ra e2, e, Bool.not_not]; exact q
/-! in -/
def D.flat : D → Bool
  | .non => true | .bl _ => true | .int _ => true | .str _ => true | _ => false
theorem flat_ok {H : Hp} : ∀ {a : D} {x : V}, a.flat = true → Rep H a x → flatV x = true
  | .non, x, _, r => by rw [show x = .non from r]; rfl
  | .bl b, x, _, r => by rw [show x = .bl b from r]; rfl
  | .int b, x, _, r => by rw [show x = .int b from r]; rfl
  | .str b, x, _, r => by rw [show x = .str (mkS b) from r]; rfl
theorem eqV_ok' {H : Hp} : ∀ (a b : D), ∀ (x y : V), a.flat = true → b.flat = true → Rep H a x → Rep H b y → eqV x y = D.eqv a b
  | .non, .non => by intro x y _ _ r q; rw [show x = .non from r, show y = .non from q]; rfl
  | .non, .bl b => by intro x y _ _ r q; rw [show x = .non from r, show y = .bl b from q]; rfl
  | .non, .int b => by intro x y _ _ r q; rw [show x = .non from r, show y = .int b from q]; rfl
  | .non, .str b => by intro x y _ _ r q; rw [show x = .non from r, show y = .str (mkS b) from q]; rfl
  | .bl a, .non => by intro x y _ _ r q; rw [show x = .bl a from r, show y = .non from q]; rfl
  | .bl a, .bl b => by intro x y _ _ r q; rw [show x = .bl a from r, show y = .bl b from q]; rfl
  | .bl a, .int b => by intro x y _ _ r q; rw [show x = .bl a from r, show y = .int b from q]; rfl
  | .bl a, .str b => by intro x y _ _ r q; rw [show x = .bl a from r, show y = .str (mkS b) from q]; rfl
  | .int a, .non => by intro x y _ _ r q; rw [show x = .int a from r, show y = .non from q]; rfl
  | .int a, .bl b => by intro x y _ _ r q; rw [show x = .int a from r, show y = .bl b from q]; rfl
  | .int a, .int b => by intro x y _ _ r q; rw [show x = .int a from r, show y = .int b from q]; rfl
  | .int a, .str b => by intro x y _ _ r q; rw [show x = .int a from r, show y = .str (mkS b) from q]; rfl
  | .str a, .non => by intro x y _ _ r q; rw [show x = .str (mkS a) from r, show y = .non from q]; rfl
  | .str a, .bl b => by intro x y _ _ r q; rw [show x = .str (mkS a) from r, show y = .bl b from q]; rfl
  | .str a, .int b => by intro x y _ _ r q; rw [show x = .str (mkS a) from r, show y = .int b from q]; rfl
  | .str a, .str b => by intro x y _ _ r q; rw [show x = .str (mkS a) from r, show y = .str (mkS b) from q]; exact mkS_beq a b
  | .tup _, _ => by intro x y f g; cases f
  | .lst _, _ => by intro x y f g; cases f
  | .dct _ _, _ => by intro x y f g; cases f
  | .opq _, _ => by intro x y f g; cases f
  | _, .tup _ => by intro x y f g; cases g
  | _, .lst _ => by intro x y f g; cases g
  | _, .dct _ _ => by intro x y f g; cases g
  | _, .opq _ => by intro x y f g; cases g
theorem eqV_ok {H : Hp} {a b : D} {x y : V} (f : a.flat = true) (g : b.flat = true) (r : Rep H a x) (q : Rep H b y) : eqV x y = D.eqv a b := eqV_ok' a b x y f g r q
theorem flats_ok {H : Hp} : ∀ {l : List D} {vs : List V}, l.all D.flat = true → Reps H l vs → vs.all flatV = true
  | [], _, _, h => by rw [show _ = [] from h]; rfl
  | d :: l, _, f, ⟨v, r, e, h, q⟩ => by
    subst e
    simp only [List.all_cons, Bool.and_eq_true] at f ⊢
    exact ⟨flat_ok f.1 h, flats_ok f.2 q⟩
theorem inV_ok {H : Hp} {a : D} {x : V} (f : a.flat = true) (r : Rep H a x) : ∀ {l : List D} {vs : List V}, l.all D.flat = true → Reps H l vs → inV x vs = l.any (fun d => D.eqv d a)
  | [], _, _, h => by rw [show _ = [] from h]; rfl
  | d :: l, _, g, ⟨v, q, e, h, k⟩ => by
    subst e
    simp only [List.all_cons, Bool.and_eq_true] at g
    have ih := inV_ok f r g.2 k
    unfold inV at ih ⊢
    rw [List.any_cons, List.any_cons, eqV_ok g.1 f h r, ih]
def inD (a : D) : D → Option Bool
  | .lst l => if a.flat = true ∧ l.all D.flat = true then some (l.any fun d => D.eqv d a) else none
  | .tup l => if a.flat = true ∧ l.all D.flat = true then some (l.any fun d => D.eqv d a) else none
  | .str z => match a with | .str [c] => some (decide (c ∈ z)) | _ => none
  | _ => none
def notInD (a b : D) : Option Bool := (inD a b).map not
def rInA (K : PySem.W.Frag) : R2 := fun x y H Q => rIn K false x y H Q ∨ (∃ (c : Nat) (z : Str), x = .str ⟨#[c]⟩ ∧ y = .str z ∧ Q (.bl (decide (c ∈ z.cps.toList))) H)
def rNotInA (K : PySem.W.Frag) : R2 := fun x y H Q => rIn K true x y H Q ∨ (∃ (c : Nat) (z : Str), x = .str ⟨#[c]⟩ ∧ y = .str z ∧ Q (.bl (!decide (c ∈ z.cps.toList))) H)
theorem op_inA {X : Cx} : OpR X (compareOp .In) (rInA X.K) := op_in_seq.or op_in_sign
theorem op_notInA {X : Cx} : OpR X (compareOp .NotIn) (rNotInA X.K) := op_notIn_seq.or op_notIn_sign
theorem in_cases {K : PySem.W.Frag} {H : Hp} {x y : V} {a b : D} {c : Bool} (ra : Rep H a x) (rb : Rep H b y) (e : inD a b = some c) :
    (∃ p xs, y = .ref p ∧ (SqL K H p xs ∨ SqT K H p xs) ∧ flatV x = true ∧ xs.all flatV = true ∧ inV x xs = c) ∨ ∃ (k : Nat) (z : Str), x = .str ⟨#[k]⟩ ∧ y = .str z ∧ decide (k ∈ z.cps.toList) = c := by
  cases b <;> try (cases e; done)
  · rename_i z
    cases a <;> try (cases e; done)
    rename_i w
    match w, e with
    | [k], e =>
      cases e
      exact .inr ⟨k, mkS z, ra, rb, by rw [mkS_cps]⟩
    | [], e => cases e
    | _ :: _ :: _, e => cases e
  · rename_i l
    simp only [inD] at e
    split at e
    · cases e
      rename_i h
      obtain ⟨p, xs, e, g, z, r⟩ := rb
      exact .inl ⟨p, xs, e, .inr (.inl (.inl g)), flat_ok h.1 ra, flats_ok h.2 r, inV_ok h.1 ra h.2 r⟩
    · cases e
  · rename_i l
    simp only [inD] at e
    split at e
    · cases e
      rename_i h
      obtain ⟨p, xs, e, g, z, r⟩ := rb
      exact .inl ⟨p, xs, e, .inl (.inl g), flat_ok h.1 ra, flats_ok h.2 r, inV_ok h.1 ra h.2 r⟩
    · cases e
theorem o_in {K : PySem.W.Frag} : Op2B (rInA K) inD := fun H x y a b c Q ra rb e q => by
  rcases in_cases (K := K) ra rb e with ⟨p, xs, e1, e2, e3, e4, e5⟩ | ⟨k, z, e1, e2, e3⟩
  · exact .inl ⟨p, xs, e1, e2, e3, e4, by simp only [Bool.false_eq_true, if_false]; rw [e5]; exact q⟩
  · exact .inr ⟨k, z, e1, e2, by rw [e3]; exact q⟩
theorem o_notIn {K : PySem.W.Frag} : Op2B (rNotInA K) notInD := fun H x y a b c Q ra rb e q => by
  unfold notInD at e
  cases e2 : inD a b with
  | none => rw [e2] at e; cases e
  | some c' =>
    rw [e2] at e
    cases e
    rcases in_cases (K := K) ra rb e2 with ⟨p, xs, e1, e2, e3, e4, e5⟩ | ⟨k, z, e1, e2, e3⟩
    · exact .inl ⟨p, xs, e1, e2, e3, e4, by simp only [if_true]; rw [e5]; exact q⟩
    · exact .inr ⟨k, z, e1, e2, by rw [e3]; exact q⟩
end VL

namespace VL
open PySem L2

/-! lengths, items, slices -/
def lenD : D → Option D
  | .str x => if x.length ≤ 16777216 then some (.int x.length) else none
  | .lst l => some (.int l.length)
  | .tup l => some (.int l.length)
  | _ => none
def rLen (K : PySem.W.Frag) : List V → Hp → VK → Prop := fun xs H Q => ∃ x n, xs = [x] ∧ LenV K x H n ∧ Q (.int n) H
theorem o_len {K : PySem.W.Frag} : Op1C (fun x H Q => rLen K [x] H Q) lenD := fun G H x a c Q sm ra e q => by
  cases a <;> try (cases e; done)
  · simp only [lenD] at e
    split at e
    · cases e
      rename_i l h
      refine ⟨x, l.length, rfl, ?_, q _ rfl⟩
      rw [show x = .str (mkS l) from ra]
      exact ⟨by rw [mkS_len, sizeLine_eq]; exact h, (mkS_len l).symm⟩
    · cases e
  · cases e
    obtain ⟨p, vs, e, g, z, r⟩ := ra
    subst e
    exact ⟨_, _, rfl, .inr ⟨vs, .inl (.inl g), r.length⟩, q _ rfl⟩
  · cases e
    obtain ⟨p, vs, e, g, z, r⟩ := ra
    subst e
    exact ⟨_, _, rfl, .inl ⟨vs, .inl g, r.length⟩, q _ rfl⟩
theorem lenD_flat (a c : D) (e : lenD a = some c) (G H : Hp) (v : V) (h : Rep H c v) : Rep G c v := by
  cases a <;> try (cases e; done)
  · simp only [lenD] at e
    split at e <;> cases e
    exact h
  · cases e; exact h
  · cases e; exact h
theorem atI_reps {G : Hp} {l : List D} {vs : List V} {i : Int} {d : D} (r : Reps G l vs) (e : atI l i = some d) : ∃ v, atI vs i = some v ∧ Rep G d v := by
  unfold atI at e ⊢
  rw [← r.length]
  cases h : ixN l.length i with
  | none => rw [h] at e; cases e
  | some j =>
    rw [h] at e
    obtain ⟨v, a, b⟩ := r.get e
    exact ⟨v, a, b⟩
def ixD : D → D → Option D
  | .lst l, .int i => atI l i
  | .tup l, .int i => atI l i
  | .str x, .int i => if x.length ≤ 16777216 then (atI x i).map fun c => .str [c] else none
  | _, _ => none
def rIxA (K : PySem.W.Frag) : R2 := fun x y H Q => rIxL K x y H Q ∨ rIxT K x y H Q ∨ rIxS x y H Q
theorem ix_any {X : Cx} : IxR X (rIxA X.K) := fun value slice pins s σ H x y v u Q I rx ry h hs => by
  rcases h with h | h | h
  · exact ix_list value slice pins s σ H x y v u Q I rx ry h hs
  · exact ix_tup value slice pins s σ H x y v u Q I rx ry h hs
  · exact ix_str value slice pins s σ H x y v u Q I rx ry h hs
theorem o_ix {K : PySem.W.Frag} : Op2C (rIxA K) ixD := fun G H x y a b c Q sm ra rb e q => by
  cases a <;> cases b <;> try (cases e; done)
  · rename_i l i
    simp only [ixD] at e
    split at e
    · rename_i h
      cases e2 : atI l i with
      | none => rw [e2] at e; cases e
      | some k =>
        rw [e2] at e; cases e
        refine .inr (.inr ⟨mkS l, i, k, ra, rb, by rw [mkS_len, sizeLine_eq]; exact h, by rw [mkS_cps]; exact e2, q _ rfl⟩)
    · cases e
  · obtain ⟨p, vs, e1, g, z, r⟩ := ra
    obtain ⟨v, a1, a2⟩ := atI_reps r e
    exact .inr (.inl ⟨p, vs, _, v, e1, rb, .inl (.inl g), a1, q _ a2⟩)
  · obtain ⟨p, vs, e1, g, z, r⟩ := ra
    obtain ⟨v, a1, a2⟩ := atI_reps r e
    exact .inl ⟨p, vs, _, v, e1, rb, .inl g, a1, q _ a2⟩
/-- a slice's part -/
def cut {α : Type} (l : List α) (lo hi : Option Int) : List α := (l.drop (HT.sIx l.length 0 lo)).take (HT.sIx l.length l.length hi - HT.sIx l.length 0 lo)
theorem cut_len {α : Type} (l : List α) (lo hi : Option Int) : (cut l lo hi).length ≤ l.length := by
  unfold cut
  rw [List.length_take, List.length_drop]
  omega
def slL (lo hi : Option Int) : D → Option (List D)
  | .lst l => some (cut l lo hi)
  | _ => none
def slS (lo hi : Option Int) : D → Option D
  | .str x => if x.length ≤ 16777216 then some (.str (cut x lo hi)) else none
  | _ => none
section
variable {R : Type} {F : Fc} {tmp : Tmp} {s : State} {m : Res R} {K : Rs R} {N : Rn R} {Rt : Rr R} {ta tb : TE}
def RO (F : Fc) (tmp : Tmp) (s : State) (m : Res R) (t : TO) (K : Option Int → State → Res R → Prop) : Prop :=
  ∀ σ H Q, Holds F tmp s σ H → m ≠ .fail → EOk F m → (∀ o s' H', K o s' m → Holds F tmp s' σ H' → Q o H') → t σ H Q
theorem ro_none {K : Option Int → State → Res R → Prop} (k : K none s m) : RO F tmp s m tNoPart K := fun σ H Q hh _ _ q => q none s H k hh
theorem ro_some {K : Option Int → State → Res R → Prop} (h : RD F tmp s ta m (fun tm s1 m1 => ∃ d k, valS s1 tm = some d ∧ m1 = ob (asI d) k ∧ ∀ i, K (some i) s1 (k i))) : RO F tmp s m (tPart ta) K := fun σ H Q hh nf eo q =>
  h σ H _ hh nf eo fun tm s1 x H1 ⟨d, k, ea, em, hk⟩ h1 => by
    obtain ⟨c, ec, em'⟩ := ob_cases (by rw [← em]; exact nf)
    have h2 := h1
    obtain ⟨G, ω, h1⟩ := h1
    have r := h1.repC h1.tm.1 ea
    cases d <;> first | cases ec | skip
    exact ⟨_, r, q _ s1 H1 (by rw [em, em']; exact hk _) h2.pop⟩
theorem rd_slL {Kf : PySem.W.Frag} {tl th : TO} (h : RD F tmp s ta m (fun tm s1 m1 => ∀ x, RO F ((x, tm) :: tmp) s1 m1 tl (fun lo s2 m2 => RO F ((x, tm) :: tmp) s2 m2 th (fun hi s3 m3 => ∃ d k, valS s3 tm = some d ∧ m3 = ob (slL lo hi d) k ∧ ∀ c, K (.own (.l c)) s3 (k c))))) :
    RD F tmp s (tSl (rSlL Kf) ta tl th) m K := fun σ H Q hh nf eo q =>
  h σ H _ hh nf eo fun tm s1 x H1 h2 h1 => h2 x σ H1 _ h1 nf eo fun lo s2 H2 h3 hh2 => h3 σ H2 _ hh2 nf eo fun hi s3 H3 ⟨d, k, ea, em, hk⟩ hh3 => by
    obtain ⟨c, ec, em'⟩ := ob_cases (by rw [← em]; exact nf)
    obtain ⟨G, ω, h4⟩ := hh3
    have r := h4.repC h4.tm.1 ea
    cases d <;> first | cases ec | skip
    obtain ⟨p, vs, e1, g, z, r⟩ := r
    refine ⟨p, vs, e1, .inl g, fun p2 np => q _ s3 _ _ (by rw [em, em']; exact hk _) (h4.pop.newL np ?_ ?_)⟩
    · exact Nat.le_trans (cut_len _ lo hi) z
    · unfold cut cutV
      rw [← r.length]
      exact (r.drop _).take _
theorem rd_slS {tl th : TO} (h : RD F tmp s ta m (fun tm s1 m1 => ∀ x, RO F ((x, tm) :: tmp) s1 m1 tl (fun lo s2 m2 => RO F ((x, tm) :: tmp) s2 m2 th (fun hi s3 m3 => ∃ d k, valS s3 tm = some d ∧ m3 = ob (slS lo hi d) k ∧ ∀ c, K (.own (.f c)) s3 (k c))))) :
    RD F tmp s (tSl rSlS ta tl th) m K := fun σ H Q hh nf eo q =>
  h σ H _ hh nf eo fun tm s1 x H1 h2 h1 => h2 x σ H1 _ h1 nf eo fun lo s2 H2 h3 hh2 => h3 σ H2 _ hh2 nf eo fun hi s3 H3 ⟨d, k, ea, em, hk⟩ hh3 => by
    obtain ⟨c, ec, em'⟩ := ob_cases (by rw [← em]; exact nf)
    obtain ⟨G, ω, h4⟩ := hh3
    have r := h4.repC h4.tm.1 ea
    cases d <;> try (cases ec; done)
    rename_i l
    simp only [slS] at ec
    split at ec
    · cases ec
      rename_i hz
      refine ⟨mkS l, r, by rw [mkS_len, sizeLine_eq]; exact hz, q _ s3 _ _ (by rw [em, em']; exact hk _) ⟨G, ω, h4.pop.pushF ?_⟩⟩
      show V.str (cutS (mkS l) lo hi) = .str (mkS (cut l lo hi))
      unfold cutS cut
      rw [mkS_len, mkS_cps]; rfl
    · cases ec
end
/-! built-ins -/
def intD : D → Option D
  | .int i => some (.int i)
  | .bl b => some (.int (if b then 1 else 0))
  | .str x => if x.length ≤ 640 then (PySem.intText? (mkS x)).map .int else none
  | _ => none
def rInt : List V → Hp → VK → Prop := fun xs H Q => ((∃ i, xs = [.int i] ∧ Q (.int i) H) ∨ ∃ k, xs = [.bl k] ∧ Q (.int (if k then 1 else 0)) H) ∨ (∃ a n, xs = [.str a] ∧ PySem.intText? a = some n ∧ a.length ≤ 640 ∧ Q (.int n) H)
theorem CallR.or {X : Cx} {f : Value} {r r' : List V → Hp → VK → Prop} (h : CallR X f r) (h' : CallR X f r') : CallR X f (fun xs H Q => r xs H Q ∨ r' xs H Q) := by
  intro pins s σ H xs us Q I rv q
  rcases q with q | q
  · exact h pins s σ H xs us Q I rv q
  · exact h' pins s σ H xs us Q I rv q
theorem call_intA {X : Cx} : CallR X (.type "int") rInt := CallR.or call_int1 call_int_str
theorem o_int : Op1C (fun x H Q => rInt [x] H Q) intD := fun G H x a c Q sm ra e q => by
  cases a <;> try (cases e; done)
  · cases e
    exact .inl (.inr ⟨_, by rw [show x = _ from ra], q _ rfl⟩)
  · cases e
    exact .inl (.inl ⟨_, by rw [show x = _ from ra], q _ rfl⟩)
  · simp only [intD] at e
    split at e
    · rename_i l h
      cases e2 : PySem.intText? (mkS l) with
      | none => rw [e2] at e; cases e
      | some n =>
        rw [e2] at e; cases e
        exact .inr ⟨mkS l, n, by rw [show x = _ from ra], e2, by rw [mkS_len]; exact h, q _ rfl⟩
    · cases e
def listD : D → Option (List D) | .lst l => some l | .tup l => some l | _ => none
def rList (K : PySem.W.Frag) : List V → Hp → VK → Prop := fun xs H Q => ∃ p ys, xs = [V.ref p] ∧ (SqL K H p ys ∨ SqT K H p ys) ∧ ∀ (l : Addr), H l = none → Q (V.ref l) (upd H l (HO.lst ys))
theorem o_list {K : PySem.W.Frag} : Op1L (fun x H Q => rList K [x] H Q) listD := fun G H x a c Q sm ra e => by
  cases a <;> try (cases e; done)
  · cases e
    obtain ⟨p, vs, e, g, z, r⟩ := ra
    subst e
    exact ⟨z, fun q => ⟨p, vs, rfl, .inr (.inl (.inl g)), fun l nl => q l vs nl r⟩⟩
  · cases e
    obtain ⟨p, vs, e, g, z, r⟩ := ra
    subst e
    exact ⟨z, fun q => ⟨p, vs, rfl, .inl (.inl g), fun l nl => q l vs nl r⟩⟩
def minD : D → D → Option D | .int a, .int b => some (.int (if b < a then b else a)) | _, _ => none
def maxD : D → D → Option D | .int a, .int b => some (.int (if b > a then b else a)) | _, _ => none
theorem o_min : Op2C (fun x y H Q => (fun xs H Q => ∃ i j, xs = [V.int i, V.int j] ∧ Q (.int (if j < i then j else i)) H : List V → Hp → VK → Prop) [x, y] H Q) minD := fun G H x y a b c Q sm ra rb e q => by
  cases a <;> cases b <;> try (cases e; done)
  cases e
  exact ⟨_, _, by rw [show x = _ from ra, show y = _ from rb], q _ rfl⟩
theorem o_max : Op2C (fun x y H Q => (fun xs H Q => ∃ i j, xs = [V.int i, V.int j] ∧ Q (.int (if j > i then j else i)) H : List V → Hp → VK → Prop) [x, y] H Q) maxD := fun G H x y a b c Q sm ra rb e q => by
  cases a <;> cases b <;> try (cases e; done)
  cases e
  exact ⟨_, _, by rw [show x = _ from ra, show y = _ from rb], q _ rfl⟩
end VL

namespace VL
open PySem L2

/-! temporaries in between -/
section
variable {F : Fc} {G H H' : Hp} {ω : Addr → Option Lab} {tmp : Tmp} {s : State} {σ : St} {v : V} {t : T} {d : D}
def phiMid (n e : Nat) : Lab → Option Lab
  | 1 :: j :: x => if j < n then some (1 :: j :: x) else if j < n + e then none else some (1 :: (j - e) :: x)
  | l => some l
theorem Tms.rlMid {φ : Lab → Option Lab} {tmp tmp' : Tmp} (h0 : Tms G H (VL.rl ω φ) σ tmp') (hlen : tmp'.length ≤ tmp.length) : ∀ (pre : Tmp), (∀ k x, k < pre.length → φ ([1, tmp.length + k] ++ x) = some ([1, tmp'.length + k] ++ x)) → Tms G H ω σ (pre ++ tmp) → Tms G H (VL.rl ω φ) σ (pre ++ tmp')
  | [], _, _ => h0
  | (v, tm) :: r, e, ⟨a, b⟩ => by
    refine ⟨?_, Tms.rlMid h0 hlen r (fun k x hk => e k x (Nat.lt_succ_of_lt hk)) b⟩
    cases tm with
    | own t =>
      have := e r.length
      refine Own.rl a fun x => ?_
      have q := e r.length x (Nat.lt_succ_self _)
      have l1 : (r.append tmp).length = tmp.length + r.length := by show (r ++ tmp).length = _; rw [List.length_append]; omega
      have l2 : (r.append tmp').length = tmp'.length + r.length := by show (r ++ tmp').length = _; rw [List.length_append]; omega
      rw [l1, l2]
      exact q
    | ali i => exact a
theorem Holds.dropMid {ex : Tmp} (pre : Tmp) (h : Holds F (pre ++ (ex ++ tmp)) s σ H) : Holds F (pre ++ tmp) s σ H := by
  obtain ⟨G, ω, h⟩ := h
  have ht : Tms G H ω σ tmp := Tms.tail ex (Tms.tail pre h.tm)
  refine ⟨G, rl ω (phiMid tmp.length ex.length), h.rl _ s σ _ h.len (fun j u e => ?_) ?_ h.pn⟩
  · obtain ⟨v', e1, e2⟩ := h.sl j u e
    exact ⟨v', e1, Own.rl e2 fun x => by simp [phiMid]⟩
  · refine Tms.rlMid (tmp := ex ++ tmp) (tmp' := tmp) (Tms.rl tmp (fun j x hj => ?_) ht) (by rw [List.length_append]; omega) pre (fun k x hk => ?_) h.tm
    · simp [phiMid, hj]
    · have h1 : ¬ (ex ++ tmp).length + k < tmp.length := by simp; omega
      have h2 : ¬ (ex ++ tmp).length + k < tmp.length + ex.length := by simp; omega
      have h3 : (ex ++ tmp).length + k - ex.length = tmp.length + k := by simp; omega
      simp only [phiMid, List.cons_append, List.nil_append]
      rw [if_neg h1, if_neg h2, h3]
theorem Tms.at {G H : Hp} {ω : Addr → Option Lab} {σ : St} {v : V} {tm : TM} {tmp : Tmp} : ∀ (pre : Tmp), Tms G H ω σ (pre ++ ((v, tm) :: tmp)) → TmOk G H ω σ [1, tmp.length] tm v
  | [], h => h.1
  | _ :: r, h => Tms.at r h.2
theorem Hd.pushNewT (h : Hd F G ω tmp s σ H) {p : Addr} {a b : D} {x y : V} (n : H p = none) (ra : Rep G a x) (rb : Rep G b y) : Holds F ((.ref p, .own (.f (.tup [a, b]))) :: tmp) s σ (upd H p (.tup [x, y])) :=
  h.newT n (by rw [sizeLine_eq]; show 2 ≤ 16777216; omega) ⟨x, [y], rfl, ra, y, [], rfl, rb, rfl⟩
end
section
variable {R : Type} {F : Fc} {tmp : Tmp} {s : State} {m : Res R} {K : Rs R} {N : Rn R} {Rt : Rr R} {ta tb te to : TE}
abbrev Ki (R : Type) := Tmp → (State → Prop) → (State → State) → List D → State → Res R → Prop
/-! what a for walks -/
theorem ri_list {Kf : PySem.W.Frag} {K : Ki R} (h : RD F tmp s ta m (fun tm s1 m1 => ∃ ds, valS s1 tm = some (.lst ds) ∧ ∀ v, K [(v, tm)] (fun s => valS s tm = valS s1 tm) id ds s1 m1)) : RI F tmp s m (iList Kf ta) K := fun σ H Q hh nf eo q =>
  h σ H _ hh nf eo fun tm s1 x H1 ⟨ds, ea, hk⟩ h1 => by
    have at_ : ∀ (pre : Tmp) s σ H, valS s tm = some (.lst ds) → Holds F (pre ++ ([(x, tm)] ++ tmp)) s σ H → ∃ a vs G ω, x = .ref a ∧ Rd H a (.lst vs) ∧ Hd F G ω (pre ++ ([(x, tm)] ++ tmp)) s σ H ∧ Reps G ds vs ∧ ds.length ≤ sizeLine := fun pre s σ H e ⟨G, ω, h⟩ => by
      obtain ⟨a, vs, e1, g, z, r⟩ := h.repC (Tms.at (tm := tm) (tmp := tmp) pre h.tm) e
      exact ⟨a, vs, G, ω, e1, g, h, r, z⟩
    have hp' : ∀ {s : State}, valS s tm = valS s1 tm → valS s tm = some (.lst ds) := fun h => h.trans ea
    obtain ⟨a, vs, G, ω, e1, g, h2, r, z⟩ := at_ [] s1 σ H1 ea h1
    refine ⟨a, e1, ⟨vs, .inl g⟩, q [(x, tm)] _ id ds s1 (Itl Kf a) H1 (hk x) ⟨fun pre s σ H _ h => h.dropMid pre, z, fun s σ H i hp hh hi => ?_, fun s σ H hp hh => ?_, fun pre s σ H i d y H' hp hh hd hy => ?_⟩ h1⟩
    · obtain ⟨a', vs', G', ω', e2, g2, _, r2, _⟩ := at_ [] s σ H (hp' hp) hh
      rw [e1] at e2; cases e2
      have hl : i < vs'.length := by rw [← r2.length]; exact hi
      exact ⟨vs', vs'[i], .inl g2, by simp [hl]⟩
    · obtain ⟨a', vs', G', ω', e2, g2, _, r2, _⟩ := at_ [] s σ H (hp' hp) hh
      rw [e1] at e2; cases e2
      exact ⟨vs', .inl g2, by rw [r2.length]; exact Nat.le_refl _⟩
    · obtain ⟨a', vs', G', ω', e2, g2, h3, r2, _⟩ := at_ pre s σ H (hp' hp) hh
      rw [e1] at e2; cases e2
      obtain ⟨rfl, hy⟩ := hy
      have hy := hy vs' (.inl g2)
      obtain ⟨w, w1, w2⟩ := r2.get hd
      rw [hy] at w1; cases w1
      exact ⟨G', ω', h3.pushF w2⟩
def rngD (a b : D) : Option (List D) := match a, b with
  | .int i, .int j => if -1000000000 ≤ i ∧ i ≤ 1000000000 ∧ -1000000000 ≤ j ∧ j ≤ 1000000000 ∧ j - i ≤ 16777216 then some ((List.range (j - i).toNat).map fun k => .int (i + (k : Nat))) else none
  | _, _ => none
theorem it_range {lo : Int} {n : Nat} (hn : n ≤ 16777216) : ItOk F tmp ([] ++ tmp) (fun _ => True) id (Itr lo n) ((List.range n).map fun k => .int (lo + (k : Nat))) := by
  refine ⟨fun pre s σ H _ h => h.dropMid (ex := []) pre, by rw [sizeLine_eq]; simpa using hn, fun s σ H i _ _ hi => by show i < n; simpa using hi, fun s σ H _ _ => by show n ≤ _; simp, fun pre s σ H i d x H' _ hh hd hy => ?_⟩
  obtain ⟨rfl, rfl⟩ := hy
  rw [List.getElem?_map] at hd
  cases e : (List.range n)[i]? with
  | none => rw [e] at hd; cases hd
  | some k =>
    rw [e] at hd
    cases hd
    have : i = k := by
      rw [List.getElem?_range (by have := (List.getElem?_eq_some_iff.mp e).1; simpa using this)] at e
      exact Option.some.inj e
    subst this
    exact holds_push (d := .int _) hh fun _ => rfl
theorem ri_range1 {K : Ki R} (h : RD F tmp s ta m (fun tm s1 m1 => ∃ d k, valS s1 tm = some d ∧ m1 = ob (rngD (.int 0) d) k ∧ ∀ ds, K [] (fun _ => True) id ds s1 (k ds))) : RI F tmp s m (iRng1 (tCons ta tNil)) K := fun σ H Q hh nf eo q =>
  h σ H _ hh nf eo fun tm s1 x H1 ⟨d, k, ea, em, hk⟩ h1 => by
    obtain ⟨c, ec, em'⟩ := ob_cases (by rw [← em]; exact nf)
    have h2 := h1
    obtain ⟨G, ω, h1⟩ := h1
    have r := h1.repC h1.tm.1 ea
    cases d <;> try (cases ec; done)
    rename_i j
    simp only [rngD] at ec
    split at ec
    · cases ec
      rename_i hb
      have r' : x = .int j := r
      subst r'
      refine ⟨j, rfl, by omega, by omega, q [] _ id _ s1 _ H1 (by rw [em, em']; exact hk _) ?_ h2.pop⟩
      have := it_range (F := F) (tmp := tmp) (lo := 0) (n := j.toNat) (by omega)
      simpa using this
    · cases ec
theorem ri_range2 {K : Ki R} (h : RD F tmp s ta m (fun tm1 s1 m1 => ∀ x, RD F ((x, tm1) :: tmp) s1 tb m1 (fun tm2 s2 m2 => ∃ a b k, valS s2 tm1 = some a ∧ valS s2 tm2 = some b ∧ m2 = ob (rngD a b) k ∧ ∀ ds, K [] (fun _ => True) id ds s2 (k ds)))) : RI F tmp s m (iRng2 (tCons ta (tCons tb tNil))) K := fun σ H Q hh nf eo q =>
  h σ H _ hh nf eo fun tm1 s1 x H1 h2 h1 => h2 x σ H1 _ h1 nf eo fun tm2 s2 y H2 ⟨a, b, k, ea, eb, em, hk⟩ h3 => by
    obtain ⟨c, ec, em'⟩ := ob_cases (by rw [← em]; exact nf)
    have h4 := h3
    obtain ⟨G, ω, h3⟩ := h3
    have r1 := h3.repC h3.tm.2.1 ea
    have r2 := h3.repC h3.tm.1 eb
    cases a <;> cases b <;> try (cases ec; done)
    rename_i i j
    simp only [rngD] at ec
    split at ec
    · cases ec
      rename_i hb
      have r1' : x = .int i := r1
      have r2' : y = .int j := r2
      subst r1'; subst r2'
      refine ⟨i, j, rfl, ⟨by omega, by omega, by omega, by omega⟩, q [] _ id _ s2 _ H2 (by rw [em, em']; exact hk _) (it_range (by omega)) h4.pop.pop⟩
    · cases ec
def enumD : Nat → List D → List D
  | _, [] => []
  | i, d :: r => .tup [.int (i : Nat), d] :: enumD (i + 1) r
theorem enumD_len : ∀ (l : List D) (i : Nat), (enumD i l).length = l.length
  | [], _ => rfl
  | _ :: r, i => by simp [enumD, enumD_len r]
theorem enumD_get : ∀ (l : List D) (i k : Nat) (d : D), (enumD i l)[k]? = some d → ∃ e, l[k]? = some e ∧ d = .tup [.int ((i + k : Nat)), e]
  | [], _, _, _, h => by simp [enumD] at h
  | x :: r, i, 0, d, h => by simp [enumD] at h; exact ⟨x, rfl, by rw [← h]; rfl⟩
  | x :: r, i, k + 1, d, h => by
    obtain ⟨e, a, b⟩ := enumD_get r (i + 1) k d (by simpa [enumD] using h)
    exact ⟨e, by simpa using a, by rw [b, show i + 1 + k = i + (k + 1) by omega]⟩
theorem ri_enum {Kf : PySem.W.Frag} {K : Ki R} (h : RD F tmp s ta m (fun tm s1 m1 => ∃ ds, valS s1 tm = some (.lst ds) ∧ ∀ v, K [(v, tm)] (fun s => valS s tm = valS s1 tm) id (enumD 0 ds) s1 m1)) : RI F tmp s m (iEnum Kf (tCons ta tNil)) K := fun σ H Q hh nf eo q =>
  h σ H _ hh nf eo fun tm s1 x H1 ⟨ds, ea, hk⟩ h1 => by
    have at_ : ∀ (pre : Tmp) s σ H, valS s tm = some (.lst ds) → Holds F (pre ++ ([(x, tm)] ++ tmp)) s σ H → ∃ a vs G ω, x = .ref a ∧ Rd H a (.lst vs) ∧ Hd F G ω (pre ++ ([(x, tm)] ++ tmp)) s σ H ∧ Reps G ds vs ∧ ds.length ≤ sizeLine := fun pre s σ H e ⟨G, ω, h⟩ => by
      obtain ⟨a, vs, e1, g, z, r⟩ := h.repC (Tms.at (tm := tm) (tmp := tmp) pre h.tm) e
      exact ⟨a, vs, G, ω, e1, g, h, r, z⟩
    have hp' : ∀ {s : State}, valS s tm = valS s1 tm → valS s tm = some (.lst ds) := fun h => h.trans ea
    obtain ⟨a, vs, G, ω, e1, g, h2, r, z⟩ := at_ [] s1 σ H1 ea h1
    refine ⟨a, vs, by rw [e1], .inl g, q [(x, tm)] _ id _ s1 (Ite Kf a) H1 (hk x) ⟨fun pre s σ H _ h => h.dropMid pre, by rw [enumD_len]; exact z, fun s σ H i hp hh hi => ?_, fun s σ H hp hh => ?_, fun pre s σ H i d y H' hp hh hd hy => ?_⟩ h1⟩
    · obtain ⟨a', vs', G', ω', e2, g2, _, r2, _⟩ := at_ [] s σ H (hp' hp) hh
      rw [e1] at e2; cases e2
      rw [enumD_len] at hi
      exact (walk_enum (K := Kf) (a := a) (xs := vs')).goes i H (by rw [← r2.length]; exact hi) (.inl g2)
    · obtain ⟨a', vs', G', ω', e2, g2, _, r2, _⟩ := at_ [] s σ H (hp' hp) hh
      rw [e1] at e2; cases e2
      rw [enumD_len, r2.length]
      exact (walk_enum (K := Kf) (a := a) (xs := vs')).stops H (.inl g2)
    · obtain ⟨a', vs', G', ω', e2, g2, h3, r2, _⟩ := at_ pre s σ H (hp' hp) hh
      rw [e1] at e2; cases e2
      obtain ⟨e, e3, e4⟩ := enumD_get ds 0 i d hd
      obtain ⟨w, w1, w2⟩ := r2.get e3
      obtain ⟨p, x1, x2, rfl, np, rfl, y1, y2⟩ := (walk_enum (K := Kf) (a := a) (xs := vs')).yields i H y H' ((List.getElem?_eq_some_iff.mp w1).1) (.inl g2) hy
      have y1' : x1 = .int (i : Nat) := (Option.some.inj y1).symm
      have y2' : vs'[i]? = some x2 := y2
      rw [w1] at y2'; cases y2'
      subst y1'
      rw [e4, Nat.zero_add]
      exact h3.pushNewT np rfl w2
def zipD : List D → List D → List D
  | a :: r, b :: q => .tup [a, b] :: zipD r q
  | _, _ => []
theorem zipD_len : ∀ (l m : List D), (zipD l m).length = min l.length m.length
  | [], _ => by simp [zipD]
  | _ :: _, [] => by simp [zipD]
  | _ :: r, _ :: q => by simp only [zipD, List.length_cons, zipD_len r q]; omega
theorem zipD_get : ∀ (l m : List D) (k : Nat) (d : D), (zipD l m)[k]? = some d → ∃ a b, l[k]? = some a ∧ m[k]? = some b ∧ d = .tup [a, b]
  | [], _, _, _, h => by simp [zipD] at h
  | _ :: _, [], _, _, h => by simp [zipD] at h
  | x :: r, y :: q, 0, d, h => by simp [zipD] at h; exact ⟨x, y, rfl, rfl, h.symm⟩
  | x :: r, y :: q, k + 1, d, h => by
    obtain ⟨a, b, h1, h2, h3⟩ := zipD_get r q k d (by simpa [zipD] using h)
    exact ⟨a, b, by simpa using h1, by simpa using h2, h3⟩
theorem ri_zip {Kf : PySem.W.Frag} {K : Ki R} (h : RD F tmp s ta m (fun tm1 s1 m1 => ∀ x, RD F ((x, tm1) :: tmp) s1 tb m1 (fun tm2 s2 m2 => ∃ da db, valS s2 tm1 = some (.lst da) ∧ valS s2 tm2 = some (.lst db) ∧ ∀ y, K [(y, tm2), (x, tm1)] (fun s => valS s tm1 = valS s2 tm1 ∧ valS s tm2 = valS s2 tm2) id (zipD da db) s2 m2))) : RI F tmp s m (iZip Kf (tCons ta (tCons tb tNil))) K := fun σ H Q hh nf eo q =>
  h σ H _ hh nf eo fun tm1 s1 x H1 hx h1 => hx x σ H1 _ h1 nf eo fun tm2 s2 y H2 ⟨da, db, ea, eb, hk⟩ h2 => by
    have at_ : ∀ (pre : Tmp) s σ H, (valS s tm1 = some (.lst da) ∧ valS s tm2 = some (.lst db)) → Holds F (pre ++ ([(y, tm2), (x, tm1)] ++ tmp)) s σ H → ∃ a b vs ws G ω, x = .ref a ∧ y = .ref b ∧ Rd H a (.lst vs) ∧ Rd H b (.lst ws) ∧ Hd F G ω (pre ++ ([(y, tm2), (x, tm1)] ++ tmp)) s σ H ∧ Reps G da vs ∧ Reps G db ws ∧ da.length ≤ sizeLine := fun pre s σ H e ⟨G, ω, h⟩ => by
      have q1 := Tms.at (tm := tm2) (tmp := (x, tm1) :: tmp) pre h.tm
      have q2 := Tms.at (tm := tm1) (tmp := tmp) (pre ++ [(y, tm2)]) (by rw [List.append_assoc]; exact h.tm)
      obtain ⟨b, ws, e2, g2, z2, r2⟩ := h.repC q1 e.2
      obtain ⟨a, vs, e1, g1, z1, r1⟩ := h.repC q2 e.1
      exact ⟨a, b, vs, ws, G, ω, e1, e2, g1, g2, h, r1, r2, z1⟩
    have hp' : ∀ {s : State}, (valS s tm1 = valS s2 tm1 ∧ valS s tm2 = valS s2 tm2) → (valS s tm1 = some (.lst da) ∧ valS s tm2 = some (.lst db)) := fun h => ⟨h.1.trans ea, h.2.trans eb⟩
    obtain ⟨a, b, vs, ws, G, ω, e1, e2, g1, g2, h3, r1, r2, z⟩ := at_ [] s2 σ H2 ⟨ea, eb⟩ h2
    refine ⟨a, b, vs, ws, by rw [e1, e2], .inl g1, .inl g2, q [(y, tm2), (x, tm1)] _ id _ s2 (Itz Kf a b) H2 (hk y) ⟨fun pre s σ H _ h => h.dropMid pre, by rw [zipD_len]; omega, fun s σ H i hp hh hi => ?_, fun s σ H hp hh => ?_, fun pre s σ H i d v H' hp hh hd hy => ?_⟩ h2⟩
    · obtain ⟨a', b', vs', ws', G', ω', e3, e4, g3, g4, _, r3, r4, _⟩ := at_ [] s σ H (hp' hp) hh
      rw [e1] at e3; cases e3; rw [e2] at e4; cases e4
      rw [zipD_len] at hi
      exact (walk_zip (K := Kf) (a := a) (b := b) (xs := vs') (ys := ws') rfl).goes i H (by rw [← r3.length, ← r4.length]; exact hi) ⟨.inl g3, .inl g4⟩
    · obtain ⟨a', b', vs', ws', G', ω', e3, e4, g3, g4, _, r3, r4, _⟩ := at_ [] s σ H (hp' hp) hh
      rw [e1] at e3; cases e3; rw [e2] at e4; cases e4
      rw [zipD_len, r3.length, r4.length]
      exact (walk_zip (K := Kf) (a := a) (b := b) (xs := vs') (ys := ws') rfl).stops H ⟨.inl g3, .inl g4⟩
    · obtain ⟨a', b', vs', ws', G', ω', e3, e4, g3, g4, h5, r3, r4, _⟩ := at_ pre s σ H (hp' hp) hh
      rw [e1] at e3; cases e3; rw [e2] at e4; cases e4
      obtain ⟨da', db', d1, d2, d3⟩ := zipD_get da db i d hd
      obtain ⟨w, w1, w2⟩ := r3.get d1
      obtain ⟨w', w1', w2'⟩ := r4.get d2
      have l1 := (List.getElem?_eq_some_iff.mp w1).1
      have l2 := (List.getElem?_eq_some_iff.mp w1').1
      obtain ⟨p, x1, x2, rfl, np, rfl, y1, y2⟩ := (walk_zip (K := Kf) (a := a) (b := b) (xs := vs') (ys := ws') rfl).yields i H v H' (by omega) ⟨.inl g3, .inl g4⟩ hy
      have y1' : vs'[i]? = some x1 := y1
      have y2' : ws'[i]? = some x2 := y2
      rw [w1] at y1'; cases y1'
      rw [w1'] at y2'; cases y2'
      rw [d3]
      exact h5.pushNewT np w2 w2'
def strL (x : List Nat) : List D := x.map fun c => .str [c]
def strLD : D → Option (List D) | .str x => if x.length ≤ 16777216 then some (strL x) else none | _ => none
theorem ri_str {K : Ki R} (h : RD F tmp s ta m (fun tm s1 m1 => ∃ d k, valS s1 tm = some d ∧ m1 = ob (strLD d) k ∧ ∀ ds, K [] (fun _ => True) id ds s1 (k ds))) : RI F tmp s m (iStr ta) K := fun σ H Q hh nf eo q =>
  h σ H _ hh nf eo fun tm s1 x H1 ⟨d, k, ea, em, hk⟩ h1 => by
    obtain ⟨c, ec, em'⟩ := ob_cases (by rw [← em]; exact nf)
    have h2 := h1
    obtain ⟨G, ω, h1⟩ := h1
    have r := h1.repC h1.tm.1 ea
    cases d <;> try (cases ec; done)
    rename_i z
    simp only [strLD] at ec
    split at ec
    · rename_i hz
      cases ec
      have r' : x = .str (mkS z) := r
      refine ⟨mkS z, r', q [] _ id _ s1 _ H1 (by rw [em, em']; exact hk _) ⟨fun pre s σ H _ h => h.dropMid (ex := []) pre, by rw [sizeLine_eq]; simpa [strL] using hz, fun s σ H i _ _ hi => ?_, fun s σ H _ _ => ?_, fun pre s σ H i d x H' _ hh hd hy => ?_⟩ h2.pop⟩
      · exact (walk_str (z := mkS z)).goes i H (by simpa [strL, mkS] using hi) trivial
      · have := (walk_str (z := mkS z)).stops H trivial
        simpa [strL, mkS] using this
      · obtain ⟨rfl, c, c1, rfl⟩ := hy
        unfold strL at hd
        rw [List.getElem?_map] at hd
        have : z[i]? = some c := by
          have h5 : (mkS z).cps[i]? = some c := c1
          simpa [mkS] using h5
        rw [this] at hd
        cases hd
        exact holds_push (d := .str [c]) hh fun _ => rfl
    · cases ec
/-! targets of two names -/
def gTupS : List D → Option D := fun _ => none
theorem rg_tup2 {Kf : PySem.W.Frag} {g1 g2 : TG} {is1 is2 : List Nat} {d : D} {K : State → Res R → Prop} (h : ∃ a b, d = .tup [a, b] ∧ ∀ y, RG F ((y, .own (.f b)) :: tmp) s m is1 g1 a (fun s1 m1 => RG F tmp s1 m1 is2 g2 b K)) : RG F tmp s m (is1 ++ is2) (gTup Kf 2 (gCons g1 (gCons g2 gNil))) d K := fun σ H v Q hh nf eo q => by
  obtain ⟨a, b, e, h⟩ := h
  subst e
  obtain ⟨G, ω, h0⟩ := hh
  obtain ⟨p, vs, e1, g, z, r⟩ := h0.tm.1
  obtain ⟨x, r1, e2, rx, y, r2, e3, ry, e4⟩ := r
  subst e2; subst e3
  cases (show r2 = [] from e4)
  refine ⟨p, [x, y], e1, .inl (.inl (h0.gH _ _ g)), rfl, x, [y], rfl, ?_⟩
  refine h y σ H x _ ⟨G, ω, (h0.pop.pushF ry).pushF rx⟩ nf eo fun s1 σ1 H1 hk h1 hj1 hl1 => ?_
  refine ⟨y, [], rfl, ?_⟩
  refine hk σ1 H1 y _ h1 nf eo fun s2 σ2 H2 hk2 h2 hj2 hl2 => ⟨rfl, q s2 σ2 H2 hk2 h2 (fun j hj => ?_) (hl2.trans hl1)⟩
  rw [List.mem_append] at hj
  rw [hj2 j fun z => hj (.inr z), hj1 j fun z => hj (.inl z)]
end
end VL

namespace VL
open PySem L2

/-! methods of lists in slots -/
def apL (ds : List D) (d : D) : Option (List D) := if ds.length < 16777216 then some (ds ++ [d]) else none
def popL (ds : List D) : Option (D × List D) := match ds[ds.length - 1]? with | some d => some (d, ds.dropLast) | none => none
def popAtL (ds : List D) : D → Option (D × List D)
  | .int i => match ixN ds.length i with
    | some k => match ds[k]? with | some d => some (d, ds.eraseIdx k) | none => none
    | none => none
  | _ => none
def setL (ds : List D) (k : D) (d : D) : Option (List D) := match k with
  | .int i => (ixN ds.length i).map fun j => ds.set j d
  | _ => none
section
variable {R : Type} {F : Fc} {tmp : Tmp} {s : State} {m : Res R} {K : Rs R} {N : Rn R} {Rt : Rr R} {ta tb te to : TE} {Kf : PySem.W.Frag}
theorem Holds.tyL {i : Nat} {ds : List D} {x : V} {σ : St} {H : Hp} (h : Holds F ((x, .ali i) :: tmp) s σ H) (hi : s[i]? = some (some (.l ds))) : tyV Kf "list" x H ∧ σ[i]? = some (some x) := by
  obtain ⟨G, ω, h⟩ := h
  obtain ⟨v, e1, a, vs, e2, ha, hw, z, r⟩ := h.sl i _ hi
  have ok : σ[i]? = some (some x) := h.tm.1
  rw [ok] at e1
  cases e1
  subst e2
  exact ⟨.inl ⟨rfl, vs, .inl (.inl ha)⟩, ok⟩
theorem rd_append (h : RD F tmp s to m (fun tm1 s1 m1 => ∃ i ds0, tm1 = .ali i ∧ s1[i]? = some (some (.l ds0)) ∧ ∀ x, RD F ((x, .ali i) :: tmp) s1 te m1 (fun tm2 s2 m2 => ∃ d ds k, tm2 = .own (.f d) ∧ s2[i]? = some (some (.l ds)) ∧ m2 = ob (apL ds d) k ∧ ∀ ds', K (.own (.f .non)) (s2.set i (some (.l ds'))) (k ds')))) :
    RD F tmp s (tBM Kf "list" rAppend to (tCons te tNil)) m K := fun σ H Q hh nf eo q =>
  h σ H _ hh nf eo fun tm1 s1 x H1 ⟨i, ds0, e1, hi0, h2⟩ h1 => by
    subst e1
    refine ⟨(h1.tyL hi0).1, h2 x σ H1 _ h1 nf eo fun tm2 s2 y H2 ⟨d, ds, k, e2, hi, em, hk⟩ h3 => ?_⟩
    subst e2
    obtain ⟨c, ec, em'⟩ := ob_cases (by rw [← em]; exact nf)
    obtain ⟨a, vs, sa, ha, hl, hz, _, up⟩ := h3.wrSlot hi
    have ex := (h3.pop.tyL (Kf := Kf) hi).2
    rw [sa] at ex; cases ex
    unfold apL at ec
    split at ec
    · cases ec
      rename_i hlt
      refine ⟨a, vs, y, rfl, rfl, ha, by rw [hl, sizeLine_eq]; exact hlt, ?_⟩
      have h4 := up (ds ++ [d]) (vs ++ [y]) (by rw [sizeLine_eq]; simp; omega) fun G _ _ r ht => r.append ⟨y, [], rfl, ht _ _ rfl d rfl, rfl⟩
      exact q _ _ .non _ (by rw [em, em']; exact hk _) (holds_push (d := .non) h4.pop.pop fun _ => rfl)
    · cases ec
theorem rd_pop (h : RD F tmp s to m (fun tm1 s1 m1 => ∃ i ds k, tm1 = .ali i ∧ s1[i]? = some (some (.l ds)) ∧ m1 = ob (popL ds) k ∧ ∀ p : D × List D, K (.own (.f p.1)) (s1.set i (some (.l p.2))) (k p))) :
    RD F tmp s (tBM0 Kf "list" rPop to) m K := fun σ H Q hh nf eo q =>
  h σ H _ hh nf eo fun tm1 s1 x H1 ⟨i, ds, k, e1, hi, em, hk⟩ h1 => by
    subst e1
    refine ⟨(h1.tyL hi).1, ?_⟩
    obtain ⟨c, ec, em'⟩ := ob_cases (by rw [← em]; exact nf)
    obtain ⟨a, vs, sa, ha, hl, hz, get, _⟩ := h1.wrSlot hi
    have ex := (h1.tyL (Kf := Kf) hi).2
    rw [sa] at ex; cases ex
    unfold popL at ec
    split at ec
    · rename_i d hd
      cases ec
      obtain ⟨v, e2, hp⟩ := get _ _ hd
      have h2 := hp (x := v) rfl
      obtain ⟨a', vs', sa', ha', hl', hz', _, up⟩ := h2.wrSlot hi
      rw [sa] at sa'; cases sa'
      rw [ha] at ha'; cases ha'
      refine ⟨a, vs, v, rfl, rfl, ha, by rw [hl]; exact e2, ?_⟩
      have h4 := up ds.dropLast vs.dropLast (by rw [List.length_dropLast]; omega) fun G _ _ r ht => r.dropLast
      obtain ⟨G, ω, h4⟩ := h4
      exact q _ _ v _ (by rw [em, em']; exact hk (_, _)) ⟨G, ω, h4.pop.pop.pushF h4.topF⟩
    · cases ec
theorem rd_popAt (h : RD F tmp s to m (fun tm1 s1 m1 => ∃ i ds0, tm1 = .ali i ∧ s1[i]? = some (some (.l ds0)) ∧ ∀ x, RD F ((x, .ali i) :: tmp) s1 te m1 (fun tm2 s2 m2 => ∃ di ds k, valS s2 tm2 = some di ∧ s2[i]? = some (some (.l ds)) ∧ m2 = ob (popAtL ds di) k ∧ ∀ p : D × List D, K (.own (.f p.1)) (s2.set i (some (.l p.2))) (k p)))) :
    RD F tmp s (tBM Kf "list" rPopAt to (tCons te tNil)) m K := fun σ H Q hh nf eo q =>
  h σ H _ hh nf eo fun tm1 s1 x H1 ⟨i, ds0, e1, hi0, h2⟩ h1 => by
    subst e1
    refine ⟨(h1.tyL hi0).1, h2 x σ H1 _ h1 nf eo fun tm2 s2 y H2 ⟨di, ds, k, e2, hi, em, hk⟩ h3 => ?_⟩
    obtain ⟨c, ec, em'⟩ := ob_cases (by rw [← em]; exact nf)
    have ey : ∃ j, di = .int j ∧ y = .int j := by
      obtain ⟨G, ω, h4⟩ := h3
      have r := h4.repC h4.tm.1 e2
      cases di <;> try (cases ec; done)
      exact ⟨_, rfl, r⟩
    obtain ⟨j, rfl, rfl⟩ := ey
    have h3 := h3.pop
    obtain ⟨a, vs, sa, ha, hl, hz, get, _⟩ := h3.wrSlot hi
    have ex := (h3.tyL (Kf := Kf) hi).2
    rw [sa] at ex; cases ex
    simp only [popAtL] at ec
    split at ec
    · rename_i k0 hk0
      split at ec
      · rename_i d hd
        cases ec
        obtain ⟨v, e2, hp⟩ := get _ _ hd
        have h2 := hp (x := v) rfl
        obtain ⟨a', vs', sa', ha', hl', hz', _, up⟩ := h2.wrSlot hi
        rw [sa] at sa'; cases sa'
        rw [ha] at ha'; cases ha'
        obtain ⟨i1, i2, i3, i4⟩ := ixN_seq hk0
        have hb : (ds.length : Int) ≤ 16777216 := by rw [sizeLine_eq] at hz; omega
        refine ⟨a, vs, j, k0, v, rfl, rfl, ha, by omega, by omega, by rw [hl]; exact i1, e2, ?_⟩
        have h4 := up (ds.eraseIdx k0) (vs.eraseIdx k0) (by rw [List.length_eraseIdx]; split <;> omega) fun G _ _ r ht => r.eraseIdx k0
        obtain ⟨G, ω, h4⟩ := h4
        exact q _ _ v _ (by rw [em, em']; exact hk (_, _)) ⟨G, ω, h4.pop.pop.pushF h4.topF⟩
      · cases ec
    · cases ec
theorem rd_reverse (h : RD F tmp s to m (fun tm1 s1 m1 => ∃ i ds, tm1 = .ali i ∧ s1[i]? = some (some (.l ds)) ∧ K (.own (.f .non)) (s1.set i (some (.l ds.reverse))) m1)) :
    RD F tmp s (tBM0 Kf "list" rReverse to) m K := fun σ H Q hh nf eo q =>
  h σ H _ hh nf eo fun tm1 s1 x H1 ⟨i, ds, e1, hi, hk⟩ h1 => by
    subst e1
    refine ⟨(h1.tyL hi).1, ?_⟩
    obtain ⟨a, vs, sa, ha, hl, hz, _, up⟩ := h1.wrSlot hi
    have ex := (h1.tyL (Kf := Kf) hi).2
    rw [sa] at ex; cases ex
    refine ⟨a, vs, rfl, rfl, ha, ?_⟩
    have h4 := up ds.reverse vs.reverse (by simpa using hz) fun G _ _ r ht => r.reverse
    exact q _ _ .non _ hk (holds_push (d := .non) h4.pop fun _ => rfl)
/-- x[i] = v -/
theorem rs_setL (h : RD F tmp s te m (fun tm1 s1 m1 => ∃ d, tm1 = .own (.f d) ∧ ∀ v, RD F ((v, .own (.f d)) :: tmp) s1 to m1 (fun tm2 s2 m2 => ∃ i, tm2 = .ali i ∧ ∀ x, RD F ((x, .ali i) :: (v, .own (.f d)) :: tmp) s2 ta m2 (fun tm3 s3 m3 => ∃ dk ds k, valS s3 tm3 = some dk ∧ s3[i]? = some (some (.l ds)) ∧ m3 = ob (setL ds dk d) k ∧ ∀ ds', N (s3.set i (some (.l ds'))) (k ds'))))) :
    RS F tmp s m (tAsg te (gSub to ta rSetL)) N Rt := fun σ H De hh nf eo nx rt =>
  h σ H _ hh nf eo fun tm1 s1 v H1 ⟨d, e1, h2⟩ h1 => by
    subst e1
    refine h2 v σ H1 _ h1 nf eo fun tm2 s2 x H2 ⟨i, e2, h4⟩ h3 => ?_
    subst e2
    refine h4 x σ H2 _ h3 nf eo fun tm3 s3 y H3 ⟨dk, ds, k, ea, hi, em, hk⟩ h5 => ?_
    obtain ⟨c, ec, em'⟩ := ob_cases (by rw [← em]; exact nf)
    have ey : ∃ j, dk = .int j ∧ y = .int j := by
      obtain ⟨G, ω, h6⟩ := h5
      have r := h6.repC h6.tm.1 ea
      cases dk <;> try (cases ec; done)
      exact ⟨_, rfl, r⟩
    obtain ⟨j, rfl, rfl⟩ := ey
    have h6 := h5.pop
    have ex := (h6.tyL (Kf := F.K) hi).2
    have h7 := h6.pop
    obtain ⟨a, vs, sa, ha, hl, hz, _, up⟩ := h7.wrSlot hi
    rw [sa] at ex; cases ex
    simp only [setL] at ec
    cases e3 : ixN ds.length j with
    | none => rw [e3] at ec; cases ec
    | some n =>
      rw [e3] at ec
      cases ec
      refine ⟨a, vs, j, n, rfl, rfl, ha, by rw [hl]; exact e3, ?_⟩
      have h8 := up (ds.set n d) (vs.set n v) (by simpa using hz) fun G _ _ r ht => r.set n (ht _ _ rfl d rfl)
      exact nx _ σ _ (by rw [em, em']; exact hk _) h8.pop
/-! lists by values -/
theorem reps_eqV {H : Hp} {a : D} {x : V} (f : a.flat = true) (r : Rep H a x) {l : List D} {vs : List V} (g : l.all D.flat = true) (q : Reps H l vs) {j : Nat} {v : V} (e : vs[j]? = some v) : ∃ d, l[j]? = some d ∧ eqV v x = D.eqv d a := by
  have hl : j < l.length := by rw [q.length]; exact (List.getElem?_eq_some_iff.mp e).1
  have hd : l[j]? = some l[j] := List.getElem?_eq_getElem hl
  obtain ⟨w, w1, w2⟩ := q.get hd
  rw [e] at w1; cases w1
  exact ⟨l[j], hd, eqV_ok (List.all_eq_true.mp g _ (List.getElem_mem hl)) f w2 r⟩
def indexD : D → D → Option D
  | .lst l, a => if a.flat = true ∧ l.all D.flat = true then (l.findIdx? fun d => D.eqv d a).map fun j => .int (j : Nat) else none
  | _, _ => none
theorem rd_index (h : RD F tmp s to m (fun tm1 s1 m1 => ∃ l0, valS s1 tm1 = some (.lst l0) ∧ ∀ x, RD F ((x, tm1) :: tmp) s1 te m1 (fun tm2 s2 m2 => ∃ a b k, valS s2 tm1 = some a ∧ valS s2 tm2 = some b ∧ m2 = ob (indexD a b) k ∧ ∀ c, K (.own (.f c)) s2 (k c)))) :
    RD F tmp s (tBM Kf "list" (rIndex Kf) to (tCons te tNil)) m K := fun σ H Q hh nf eo q =>
  h σ H _ hh nf eo fun tm1 s1 x H1 ⟨l0, e0, h2⟩ h1 => by
    have ht : tyV Kf "list" x H1 := by
      obtain ⟨G, ω, h3⟩ := h1
      obtain ⟨a, vs, e, g, z, r⟩ := h3.repC h3.tm.1 e0
      subst e
      exact .inl ⟨rfl, vs, .inl g⟩
    refine ⟨ht, h2 x σ H1 _ h1 nf eo fun tm2 s2 y H2 ⟨a, b, k, ea, eb, em, hk⟩ h3 => ?_⟩
    obtain ⟨c, ec, em'⟩ := ob_cases (by rw [← em]; exact nf)
    have h5 := h3
    obtain ⟨G, ω, h4⟩ := h3
    have ra := h4.repC h4.tm.2.1 ea
    have rb := (h4.repC h4.tm.1 eb).toR h4.gH
    cases a <;> try (cases ec; done)
    rename_i l
    obtain ⟨p, vs, e, g, z, r⟩ := ra
    simp only [indexD] at ec
    split at ec
    · rename_i hf
      cases e2 : l.findIdx? (fun d => D.eqv d b) with
      | none => rw [e2] at ec; cases ec
      | some j =>
        rw [e2] at ec
        cases ec
        obtain ⟨j1, j2, j3⟩ := List.findIdx?_eq_some_iff_getElem.mp e2
        have r2 := Reps.mono h4.gH _ _ r
        have hv : j < vs.length := by rw [← r.length]; exact j1
        have hvj : vs[j]? = some vs[j] := List.getElem?_eq_getElem hv
        obtain ⟨d, d1, d2⟩ := reps_eqV hf.1 rb hf.2 r2 hvj
        rw [List.getElem?_eq_getElem j1] at d1
        cases d1
        refine ⟨p, vs, y, j, vs[j], e, rfl, .inl g, flat_ok hf.1 rb, flats_ok hf.2 r2, hvj, d2.trans j2, fun m z' hm ez => ?_, ?_⟩
        · obtain ⟨d', d3, d4⟩ := reps_eqV hf.1 rb hf.2 r2 ez
          have hml : m < l.length := by omega
          rw [List.getElem?_eq_getElem hml] at d3
          cases d3
          rw [d4]
          have := j3 m hm
          simpa using this
        · exact q _ s2 _ H2 (by rw [em, em']; exact hk _) (holds_push (d := .int _) h5.pop.pop fun _ => rfl)
    · cases ec
def strsD : List D → Option (List (List Nat))
  | [] => some []
  | .str x :: r => (strsD r).map (x :: ·)
  | _ :: _ => none
theorem strs_ok {G : Hp} : ∀ {l : List D} {ys : List (List Nat)} {vs : List V}, strsD l = some ys → Reps G l vs → vs = (ys.map mkS).map V.str
  | [], ys, vs, e, h => by cases e; exact h
  | .str x :: r, ys, vs, e, ⟨v, q, e1, h, k⟩ => by
    cases e2 : strsD r with
    | none => simp [strsD, e2] at e
    | some ys' =>
      simp [strsD, e2] at e
      subst e
      rw [e1, show v = .str (mkS x) from h, strs_ok e2 k]
      rfl
  | .non :: _, _, _, e, _ => by cases e
  | .bl _ :: _, _, _, e, _ => by cases e
  | .int _ :: _, _, _, e, _ => by cases e
  | .tup _ :: _, _, _, e, _ => by cases e
  | .lst _ :: _, _, _, e, _ => by cases e
  | .dct _ _ :: _, _, _, e, _ => by cases e
  | .opq _ :: _, _, _, e, _ => by cases e
def joinS (a : List Nat) : List (List Nat) → List Nat
  | [] => []
  | [x] => x
  | x :: r => x ++ a ++ joinS a r
def joinD : D → D → Option D
  | .str a, .lst l => match strsD l with
    | some ys => if (ys.map List.length).sum + ys.length * a.length ≤ 16777216 then some (.str (joinS a ys)) else none
    | none => none
  | _, _ => none
end
/-! isinstance -/
inductive Kn where | int | str | bool | list | tuple | dict
def Kn.nm : Kn → String | .int => "int" | .str => "str" | .bool => "bool" | .list => "list" | .tuple => "tuple" | .dict => "dict"
def isK : D → Kn → Option Bool
  | .non, _ => some false
  | .bl _, .bool => some true
  | .bl _, .int => some true
  | .bl _, _ => some false
  | .int _, .int => some true
  | .int _, _ => some false
  | .str _, .str => some true
  | .str _, _ => some false
  | .tup _, .tuple => some true
  | .tup _, _ => some false
  | .lst _, .list => some true
  | .lst _, _ => some false
  | .dct _ _, .dict => some true
  | .dct _ _, _ => some false
  | .opq _, _ => none
def tyN : D → String | .non => "NoneType" | .bl _ => "bool" | .int _ => "int" | .str _ => "str" | .tup _ => "tuple" | .lst _ => "list" | .dct _ _ => "dict" | .opq _ => ""
theorem ty_ok {K : PySem.W.Frag} {H : Hp} : ∀ (d : D) (x : V), (∀ w, d ≠ .opq w) → Rep H d x → TyX K H x (.type (tyN d))
  | .non, x, _, h => by rw [show x = .non from h]; exact .base .non
  | .bl b, x, _, h => by rw [show x = .bl b from h]; exact .base (.bl b)
  | .int b, x, _, h => by rw [show x = .int b from h]; exact .base (.int b)
  | .str b, x, _, h => by rw [show x = .str (mkS b) from h]; exact .base (.str _)
  | .tup l, x, _, ⟨a, vs, e, g, _, _⟩ => by rw [e]; exact .base (.tup g)
  | .lst l, x, _, ⟨a, vs, e, .inl g, _, _⟩ => by rw [e]; exact .base (.lst g)
  | .lst l, x, _, ⟨a, vs, e, .inr ⟨o, g⟩, _, _⟩ => by rw [e]; exact .base (.frz g)
  | .dct false l, x, _, ⟨a, kvs, e, g, _⟩ => by rw [e]; exact .base (.dK g)
  | .dct true l, x, _, ⟨a, kvs, e, g, _⟩ => by rw [e]; exact .base (.dT g)
  | .opq w, x, n, _ => absurd rfl (n w)
theorem kitB_ok : ∀ (d : D) (k : Kn) (c : Bool), isK d k = some c → kitB (tyN d) k.nm = some c := by
  intro d k c e
  cases d <;> cases k <;> first | cases e | skip
  all_goals (simp only [tyN, Kn.nm]; decide +kernel)
section
variable {R : Type} {F : Fc} {tmp : Tmp} {s : State} {m : Res R} {K : Rs R} {ta tb te to : TE} {Kf : PySem.W.Frag}
theorem rd_isi (kn : Kn) (h : RD F tmp s ta m (fun tm1 s1 m1 => ∃ a k, valT s1 tm1 = some a ∧ m1 = ob (isK a kn) k ∧ ∀ c, K (.own (.f (.bl c))) s1 (k c))) : RD F tmp s (tCB (rIsi Kf) (tCons ta (tCons (tC (.ty kn.nm)) tNil))) m K := fun σ H Q hh nf eo q =>
  h σ H _ hh nf eo fun tm1 s1 x H1 ⟨a, k, ea, em, hk⟩ h1 => by
    obtain ⟨c, ec, em'⟩ := ob_cases (by rw [← em]; exact nf)
    have h3 := h1
    obtain ⟨G, ω, h2⟩ := h1
    have r := h2.repT h2.tm.1 ea
    have no : ∀ w, a ≠ .opq w := fun w z => by rw [z] at ec; cases ec
    exact ⟨x, .ty kn.nm, .type (tyN a), .type kn.nm, c, rfl, .ty _, ty_ok a x no r, kit_ty (kitB_ok a kn c ec), q _ s1 _ H1 (by rw [em, em']; exact hk c) (holds_bl h3.pop)⟩
end
end VL

namespace VL
open PySem L2

/-! join, lists put together -/
theorem join_ok (a : List Nat) : ∀ ys : List (List Nat), Txt.join (mkS a) (ys.map mkS) = mkS (joinS a ys) := by
  intro ys
  show Builtin.Str.glued (mkS a) (ys.map mkS) = _
  rw [StrLaws.glued_eq_join]
  induction ys with
  | nil => rfl
  | cons x r ih =>
    cases r with
    | nil => rfl
    | cons y q =>
      show mkS x ++ mkS a ++ Str.join (mkS a) ((y :: q).map mkS) = mkS (x ++ a ++ joinS a (y :: q))
      rw [ih, mkS_app, mkS_app]
def rCatR : R2 := fun x y H Q => ∃ l b xs zs, x = .ref l ∧ y = .ref b ∧ Rd H l (.lst xs) ∧ Rd H b (.lst zs) ∧ xs.length + zs.length ≤ sizeLine ∧ ∀ p, H p = none → Q (.ref p) (upd H p (.lst (xs ++ zs)))
theorem op_catR {X : Cx} : OpR X (binaryOp .Add) rCatR := by
  intro pins s σ H x y v u Q I rx ry h
  obtain ⟨l, b, xs, zs, e1, e2, hH, hB, hz, q⟩ := h
  subst e1; subst e2
  cases rx
  cases ry
  obtain ⟨z, its, n, r, ho⟩ := hH.ok I.hok
  obtain ⟨z2, its2, n2, r2, ho2⟩ := hB.ok I.hok
  refine PySem.P.add_list ho ho2 ?_ (by rw [List.size_toArray, List.size_toArray, ← r.length, ← r2.length]; exact hz)
  rw [show its.toArray ++ its2.toArray = (its ++ its2).toArray by simp]
  exact ⟨.ref _, _, I.lnew (t' := s.toks) (r.append r2) (by rw [List.length_append]; exact hz), rfl, q _ I.fresh⟩
def catD : D → D → Option (List D)
  | .lst a, .lst b => if a.length + b.length ≤ 16777216 then some (a ++ b) else none
  | _, _ => none
theorem o_cat : Op2L rCatR catD := fun G H x y a b c Q sm ra rb e => by
  cases a <;> cases b <;> try (cases e; done)
  rename_i l m
  simp only [catD] at e
  split at e
  · rename_i hz
    cases e
    obtain ⟨p, vs, e1, g1, z1, r1⟩ := ra
    obtain ⟨p2, ws, e2, g2, z2, r2⟩ := rb
    refine ⟨by rw [sizeLine_eq, List.length_append]; exact hz, fun q => ⟨p, p2, vs, ws, e1, e2, g1, g2, by rw [← r1.length, ← r2.length, sizeLine_eq]; exact hz, fun p3 np => q p3 _ np (r1.append r2)⟩⟩
  · cases e
def repL (ds : List D) : D → Option (List D)
  | .int k => if k ≤ 1000000 ∧ -1000000 ≤ k ∧ ds.length * k.toNat ≤ 16777216 then some (List.replicate k.toNat ds).flatten else none
  | _ => none
theorem Reps.rep {G : Hp} {l : List D} {vs : List V} (h : Reps G l vs) : ∀ n, Reps G (List.replicate n l).flatten (List.replicate n vs).flatten
  | 0 => rfl
  | n + 1 => by
    rw [List.replicate_succ, List.replicate_succ, List.flatten_cons, List.flatten_cons]
    exact h.append (Reps.rep h n)
section
variable {R : Type} {F : Fc} {tmp : Tmp} {s : State} {m : Res R} {K : Rs R} {N : Rn R} {Rt : Rr R} {ta tb te to td ty tv : TE} {Kf : PySem.W.Frag}
theorem rd_rep (h : RD F tmp s ta m (fun tm1 s1 m1 => ∃ ds, tm1 = .own (.l ds) ∧ ∀ x, RD F ((x, .own (.l ds)) :: tmp) s1 tb m1 (fun tm2 s2 m2 => ∃ b k, valS s2 tm2 = some b ∧ m2 = ob (repL ds b) k ∧ ∀ c, K (.own (.l c)) s2 (k c)))) : RD F tmp s (tOp rRep ta tb) m K := fun σ H Q hh nf eo q =>
  h σ H _ hh nf eo fun tm1 s1 x H1 ⟨ds, e1, h2⟩ h1 => by
    subst e1
    refine h2 x σ H1 _ h1 nf eo fun tm2 s2 y H2 ⟨b, k, eb, em, hk⟩ h3 => ?_
    obtain ⟨c, ec, em'⟩ := ob_cases (by rw [← em]; exact nf)
    obtain ⟨G, ω, h4⟩ := h3
    have rb := h4.repC h4.tm.1 eb
    cases b <;> try (cases ec; done)
    rename_i i
    simp only [repL] at ec
    split at ec
    · rename_i hz
      cases ec
      obtain ⟨a, vs, e1, ha, hw, z, r⟩ := h4.tm.2.1
      have ey : y = .int i := rb
      refine ⟨a, i, vs, e1, ey, ha, by omega, by omega, by rw [← r.length, sizeLine_eq]; exact hz.2.2, fun p np => q _ s2 _ _ (by rw [em, em']; exact hk _) (h4.pop.pop.newL np ?_ (r.rep _))⟩
      rw [sizeLine_eq, List.length_flatten, List.map_replicate, List.sum_replicate_nat]
      rw [Nat.mul_comm]; exact hz.2.2
    · cases ec
/-- sep.join(xs) -/
theorem rd_join (h : RD F tmp s to m (fun tm1 s1 m1 => (∃ a0, valS s1 tm1 = some (.str a0)) ∧ ∀ x, RD F ((x, tm1) :: tmp) s1 te m1 (fun tm2 s2 m2 => ∃ a b k, valS s2 tm1 = some a ∧ valS s2 tm2 = some b ∧ m2 = ob (joinD a b) k ∧ ∀ c, K (.own (.f c)) s2 (k c)))) :
    RD F tmp s (tM1 (fun x xs H Q => ∃ a p ys, x = V.str a ∧ xs = [V.ref p] ∧ (SqL Kf H p (List.map V.str ys) ∨ SqT Kf H p (List.map V.str ys)) ∧ (List.map (fun x : Str => x.length) ys).sum + ys.length * a.length ≤ 16777216 ∧ Q (V.str (Txt.join a ys)) H) to te) m K := fun σ H Q hh nf eo q =>
  h σ H _ hh nf eo fun tm1 s1 x H1 ⟨⟨a0, e0⟩, h2⟩ h1 => by
    refine ⟨?_, h2 x σ H1 _ h1 nf eo fun tm2 s2 y H2 ⟨a, b, k, ea, eb, em, hk⟩ h3 => ?_⟩
    · obtain ⟨G, ω, h4⟩ := h1
      exact ⟨_, h4.repC h4.tm.1 e0⟩
    obtain ⟨c, ec, em'⟩ := ob_cases (by rw [← em]; exact nf)
    have h5 := h3
    obtain ⟨G, ω, h4⟩ := h3
    have ra := h4.repC h4.tm.2.1 ea
    have rb := h4.repC h4.tm.1 eb
    cases a <;> cases b <;> try (cases ec; done)
    rename_i z l
    simp only [joinD] at ec
    split at ec
    · rename_i ys hs
      split at ec
      · rename_i hz
        cases ec
        obtain ⟨p, vs, e1, g, zz, r⟩ := rb
        have hv := strs_ok hs r
        subst hv
        refine ⟨mkS z, p, ys.map mkS, ra, by rw [show y = .ref p from e1], .inl (.inl g), ?_, ?_⟩
        · rw [List.map_map, List.length_map, mkS_len]
          have : ((fun x : Str => x.length) ∘ mkS) = List.length := by funext w; exact mkS_len w
          rw [this]; exact hz
        · rw [join_ok]
          exact q _ s2 _ H2 (by rw [em, em']; exact hk _) (holds_push (d := .str _) h5.pop.pop fun _ => rfl)
      · cases ec
    · cases ec
/-! str of a whole number -/
def numS (i : Int) : List Nat := (Str.ofString (toString i)).cps.toList
end
def rStrI : List V → Hp → VK → Prop := fun xs H Q => ∃ i, xs = [.int i] ∧ i.natAbs.log2 < 1920 ∧ Q (.str (Str.ofString (toString i))) H
def strI : D → Option D
  | .int i => if i.natAbs < 1000000000000000000000000000000 then some (.str (numS i)) else none
  | _ => none
theorem o_strI : Op1C (fun x H Q => rStrI [x] H Q) strI := fun G H x a c Q sm ra e q => by
  cases a <;> try (cases e; done)
  rename_i i
  simp only [strI] at e
  split at e
  · rename_i hb
    cases e
    refine ⟨i, by rw [show x = .int i from ra], ?_, ?_⟩
    · by_cases h0 : i.natAbs = 0
      · rw [h0]; decide
      · rw [Nat.log2_lt h0]
        exact Nat.lt_of_lt_of_le hb (by decide)
    · have := q (.str (mkS (numS i))) rfl
      unfold numS at this
      rw [mkS_of] at this
      exact this
  · cases e
/-! dicts -/
def keyK : D → Option Key
  | .int i => some (.inl i)
  | .str x => some (.inr (mkS x))
  | _ => none
def keysK : List D → Option (List Key)
  | [] => some []
  | d :: r => match keyK d, keysK r with | some k, some q => some (k :: q) | _, _ => none
def keyT : D → Option (List Key) | .tup l => keysK l | _ => none
theorem keyK_kD {d : D} {k : Key} (h : keyK d = some k) : d = kD k := by
  cases d <;> try (cases h; done)
  · cases h; rfl
  · cases h; simp [kD, mkS_cps]
theorem keysK_kD : ∀ {l : List D} {q : List Key}, keysK l = some q → l = q.map kD
  | [], q, h => by cases h; rfl
  | d :: r, q, h => by
    simp only [keysK] at h
    split at h
    · rename_i k q' e1 e2
      cases h
      rw [List.map_cons, ← keyK_kD e1, ← keysK_kD e2]
    · cases h
theorem rep_key {H : Hp} {d : D} {k : Key} {y : V} (h : keyK d = some k) (r : Rep H d y) : y = kV k := by
  cases d <;> try (cases h; done)
  · cases h; exact r
  · cases h; exact r
theorem reps_keys {H : Hp} : ∀ {l : List D} {q : List Key} {vs : List V}, keysK l = some q → Reps H l vs → vs = q.map kV
  | [], q, vs, h, r => by cases h; exact r
  | d :: l, q, vs, h, ⟨v, r, e, r1, r2⟩ => by
    simp only [keysK] at h
    split at h
    · rename_i k q' e1 e2
      cases h
      rw [e, List.map_cons, rep_key e1 r1, reps_keys e2 r2]
    · cases h
theorem kD_eqv : ∀ (a b : Key), D.eqv (kD a) (kD b) = decide (a = b)
  | .inl a, .inl b => by
    show (a == b) = _
    by_cases h : a = b
    · subst h; simp
    · rw [beq_eq_false_iff_ne.mpr h]; exact (decide_eq_false fun z => h (Sum.inl.inj z)).symm
  | .inl a, .inr b => by rw [decide_eq_false fun z => nomatch z]; rfl
  | .inr a, .inl b => by rw [decide_eq_false fun z => nomatch z]; rfl
  | .inr a, .inr b => by
    show (a.cps.toList == b.cps.toList) = _
    by_cases h : a = b
    · subst h; simp
    · have h2 : ¬ a.cps.toList = b.cps.toList := fun z => h (by rw [← mkS_of a, ← mkS_of b, z])
      rw [beq_eq_false_iff_ne.mpr h2]; exact (decide_eq_false fun z => h (Sum.inr.inj z)).symm
theorem kDs_eqv : ∀ (a b : List Key), D.eqvs (a.map kD) (b.map kD) = decide (a = b)
  | [], [] => rfl
  | [], _ :: _ => rfl
  | _ :: _, [] => rfl
  | a :: r, b :: q => by
    show (D.eqv (kD a) (kD b) && D.eqvs (r.map kD) (q.map kD)) = _
    rw [kD_eqv, kDs_eqv r q, ← Bool.decide_and]
    congr 1
    simp
def keyOk (k : Bool) (d : D) : Bool := if k = true then (keyT d).isSome else (keyK d).isSome
def findD (l : List (D × D)) (d : D) : Option D := (l.find? fun kv => D.eqv kv.1 d).map (·.2)
def storeD (l : List (D × D)) (d v : D) : List (D × D) := if (l.any fun kv => D.eqv kv.1 d) = true then l.map (fun kv => if D.eqv kv.1 d = true then (kv.1, v) else kv) else l ++ [(d, v)]
theorem repK_find {G : Hp} {kk : Key} {d : D} (hd : d = kD kk) : ∀ {l : List (D × D)} {kvs : List (Key × V)}, RepK G l kvs →
    (findD l d = none ∧ valV kvs kk = none) ∨ ∃ c v, findD l d = some c ∧ valV kvs kk = some v ∧ Rep G c v
  | [], _, h => by cases (show _ = [] from h); exact .inl ⟨rfl, rfl⟩
  | (k, c) :: r, _, ⟨k', v, q, e, ek, rc, h⟩ => by
    subst e; subst hd; subst ek
    unfold findD valV
    rw [List.find?_cons, List.find?_cons]
    show (_ ∧ _) ∨ _
    rw [kD_eqv]
    by_cases e : k' = kk
    · rw [decide_eq_true e]; exact .inr ⟨c, v, rfl, rfl, rc⟩
    · rw [decide_eq_false e]; exact repK_find rfl h
theorem repT_find {G : Hp} {kk : List Key} {d : D} (hd : d = .tup (kk.map kD)) : ∀ {l : List (D × D)} {kvs : List (List Key × V)}, RepT G l kvs →
    (findD l d = none ∧ valV kvs kk = none) ∨ ∃ c v, findD l d = some c ∧ valV kvs kk = some v ∧ Rep G c v
  | [], _, h => by cases (show _ = [] from h); exact .inl ⟨rfl, rfl⟩
  | (k, c) :: r, _, ⟨k', v, q, e, ek, rc, h⟩ => by
    subst e; subst hd; subst ek
    unfold findD valV
    rw [List.find?_cons, List.find?_cons]
    show (_ ∧ _) ∨ _
    rw [show D.eqv (.tup (k'.map kD)) (.tup (kk.map kD)) = decide (k' = kk) from kDs_eqv k' kk]
    by_cases e : k' = kk
    · rw [decide_eq_true e]; exact .inr ⟨c, v, rfl, rfl, rc⟩
    · rw [decide_eq_false e]; exact repT_find rfl h
theorem dget_any {G H : Hp} {k : Bool} {l : List (D × D)} {d : D} {x y : V} (sm : Same G H) (rx : RepC G H (.dct k l) x) (ry : RepC G H d y) (ok : keyOk k d = true) :
    ∃ a o, x = .ref a ∧ DGet H a y o ∧ ((findD l d = none ∧ o = none) ∨ ∃ c v, findD l d = some c ∧ o = some v ∧ Rep G c v) := by
  have ry' := ry.toR sm
  cases k with
  | false =>
    obtain ⟨a, kvs, e, g, r⟩ := rx
    obtain ⟨kk, hk⟩ := Option.isSome_iff_exists.mp (show (keyK d).isSome = true from ok)
    rw [rep_key hk ry']
    refine ⟨a, valV kvs kk, e, .k g, ?_⟩
    rcases repK_find (keyK_kD hk) r with ⟨h1, h2⟩ | ⟨c, v, h1, h2, h3⟩
    · exact .inl ⟨h1, h2⟩
    · exact .inr ⟨c, v, h1, h2, h3⟩
  | true =>
    obtain ⟨a, kvs, e, g, r⟩ := rx
    obtain ⟨kk, hk⟩ := Option.isSome_iff_exists.mp (show (keyT d).isSome = true from ok)
    cases d <;> try (cases hk; done)
    rename_i ks
    have hk' : keysK ks = some kk := hk
    obtain ⟨b, vs, e2, g2, _, r2⟩ := ry'
    have hv := reps_keys hk' r2
    rw [hv] at g2
    rw [e2]
    refine ⟨a, valV kvs kk, e, .t g g2, ?_⟩
    rcases repT_find (by rw [keysK_kD hk'] : D.tup ks = .tup (kk.map kD)) r with ⟨h1, h2⟩ | ⟨c, v, h1, h2, h3⟩
    · exact .inl ⟨h1, h2⟩
    · exact .inr ⟨c, v, h1, h2, h3⟩
theorem repK_store {G : Hp} {kk : Key} {d c : D} {v : V} (hd : d = kD kk) (rc : Rep G c v) {l : List (D × D)} {kvs : List (Key × V)} (h : RepK G l kvs) : RepK G (storeD l d c) (putK kvs kk v) := by
  subst hd
  have hany : ∀ {l : List (D × D)} {kvs : List (Key × V)}, RepK G l kvs → (l.any fun kv => D.eqv kv.1 (kD kk)) = kvs.any fun kv => decide (kv.1 = kk) := by
    intro l
    induction l with
    | nil => intro kvs h; cases (show kvs = [] from h); rfl
    | cons kv r ih =>
      obtain ⟨k, c'⟩ := kv
      intro kvs ⟨k', v', q, e, ek, rc', h'⟩
      subst e; subst ek
      rw [List.any_cons, List.any_cons, ih h', kD_eqv]
  have hmap : ∀ {l : List (D × D)} {kvs : List (Key × V)}, RepK G l kvs → RepK G (l.map fun kv => if D.eqv kv.1 (kD kk) = true then (kv.1, c) else kv) (kvs.map fun kv => if kv.1 = kk then (kv.1, v) else kv) := by
    intro l
    induction l with
    | nil => intro kvs h; cases (show kvs = [] from h); exact rfl
    | cons kv r ih =>
      obtain ⟨k, c'⟩ := kv
      intro kvs ⟨k', v', q, e, ek, rc', h'⟩
      subst e; subst ek
      rw [List.map_cons, List.map_cons]
      simp only [kD_eqv]
      by_cases e : k' = kk
      · simp only [e, decide_true, if_true]
        exact ⟨kk, v, _, rfl, rfl, rc, by simpa only [kD_eqv] using ih h'⟩
      · simp only [e, decide_false, Bool.false_eq_true, if_false]
        exact ⟨k', v', _, rfl, rfl, rc', by simpa only [kD_eqv] using ih h'⟩
  have happ : ∀ {l : List (D × D)} {kvs : List (Key × V)}, RepK G l kvs → RepK G (l ++ [(kD kk, c)]) (kvs ++ [(kk, v)]) := by
    intro l
    induction l with
    | nil => intro kvs h; cases (show kvs = [] from h); exact ⟨kk, v, [], rfl, rfl, rc, rfl⟩
    | cons kv r ih =>
      obtain ⟨k, c'⟩ := kv
      intro kvs ⟨k', v', q, e, ek, rc', h'⟩
      subst e
      exact ⟨k', v', _, rfl, ek, rc', ih h'⟩
  unfold storeD putK
  rw [hany h]
  split
  · exact hmap h
  · exact happ h
theorem repT_store {G : Hp} {kk : List Key} {d c : D} {v : V} (hd : d = .tup (kk.map kD)) (rc : Rep G c v) {l : List (D × D)} {kvs : List (List Key × V)} (h : RepT G l kvs) : RepT G (storeD l d c) (putK kvs kk v) := by
  subst hd
  have key : ∀ k' : List Key, D.eqv (.tup (k'.map kD)) (.tup (kk.map kD)) = decide (k' = kk) := fun k' => kDs_eqv k' kk
  have hany : ∀ {l : List (D × D)} {kvs : List (List Key × V)}, RepT G l kvs → (l.any fun kv => D.eqv kv.1 (.tup (kk.map kD))) = kvs.any fun kv => decide (kv.1 = kk) := by
    intro l
    induction l with
    | nil => intro kvs h; cases (show kvs = [] from h); rfl
    | cons kv r ih =>
      obtain ⟨k, c'⟩ := kv
      intro kvs ⟨k', v', q, e, ek, rc', h'⟩
      subst e; subst ek
      rw [List.any_cons, List.any_cons, ih h', key]
  have hmap : ∀ {l : List (D × D)} {kvs : List (List Key × V)}, RepT G l kvs → RepT G (l.map fun kv => if D.eqv kv.1 (.tup (kk.map kD)) = true then (kv.1, c) else kv) (kvs.map fun kv => if kv.1 = kk then (kv.1, v) else kv) := by
    intro l
    induction l with
    | nil => intro kvs h; cases (show kvs = [] from h); exact rfl
    | cons kv r ih =>
      obtain ⟨k, c'⟩ := kv
      intro kvs ⟨k', v', q, e, ek, rc', h'⟩
      subst e; subst ek
      rw [List.map_cons, List.map_cons]
      simp only [key]
      by_cases e : k' = kk
      · simp only [e, decide_true, if_true]
        exact ⟨kk, v, _, rfl, rfl, rc, by simpa only [key] using ih h'⟩
      · simp only [e, decide_false, Bool.false_eq_true, if_false]
        exact ⟨k', v', _, rfl, rfl, rc', by simpa only [key] using ih h'⟩
  have happ : ∀ {l : List (D × D)} {kvs : List (List Key × V)}, RepT G l kvs → RepT G (l ++ [(.tup (kk.map kD), c)]) (kvs ++ [(kk, v)]) := by
    intro l
    induction l with
    | nil => intro kvs h; cases (show kvs = [] from h); exact ⟨kk, v, [], rfl, rfl, rc, rfl⟩
    | cons kv r ih =>
      obtain ⟨k, c'⟩ := kv
      intro kvs ⟨k', v', q, e, ek, rc', h'⟩
      subst e
      exact ⟨k', v', _, rfl, ek, rc', ih h'⟩
  unfold storeD putK
  rw [hany h]
  split
  · exact hmap h
  · exact happ h
def dgetD (a d : D) : Option D := match a with | .dct k l => if keyOk k d = true then findD l d else none | _ => none
def dget1D (a d : D) : Option D := match a with | .dct k l => if keyOk k d = true then some ((findD l d).getD .non) else none | _ => none
def dget2D (a d z : D) : Option D := match a with | .dct k l => if keyOk k d = true then some ((findD l d).getD z) else none | _ => none
def dinD (d a : D) : Option Bool := match a with | .dct k l => if keyOk k d = true then some (findD l d).isSome else none | _ => none
def dputD (k : Bool) (l : List (D × D)) (d v : D) : Option (List (D × D)) := if keyOk k d = true ∧ l.length < 16777216 then some (storeD l d v) else none
section
variable {R : Type} {F : Fc} {tmp : Tmp} {s : State} {m : Res R} {K : Rs R} {N : Rn R} {Rt : Rr R} {ta tb te to td ty tv tx : TE} {Kf : PySem.W.Frag}
theorem rd_dget (h : RD F tmp s td m (fun tm1 s1 m1 => ∀ x, RD F ((x, tm1) :: tmp) s1 ty m1 (fun tm2 s2 m2 => ∃ a b k, valS s2 tm1 = some a ∧ valS s2 tm2 = some b ∧ m2 = ob (dgetD a b) k ∧ ∀ c, K (.own (.f c)) s2 (k c)))) : RD F tmp s (tDGet td ty) m K := fun σ H Q hh nf eo q =>
  h σ H _ hh nf eo fun tm1 s1 x H1 h2 h1 => h2 x σ H1 _ h1 nf eo fun tm2 s2 y H2 ⟨a, b, k, ea, eb, em, hk⟩ h3 => by
    obtain ⟨c, ec, em'⟩ := ob_cases (by rw [← em]; exact nf)
    obtain ⟨G, ω, h3⟩ := h3
    have ra := h3.repC h3.tm.2.1 ea
    have rb := h3.repC h3.tm.1 eb
    cases a <;> try (cases ec; done)
    simp only [dgetD] at ec
    split at ec
    · rename_i ok
      obtain ⟨p, o, e1, g, w⟩ := dget_any h3.gH ra rb ok
      rcases w with ⟨w1, _⟩ | ⟨c', v, w1, w2, w3⟩
      · rw [w1] at ec; cases ec
      · rw [w1] at ec; cases ec
        rw [w2] at g
        exact ⟨p, v, e1, g, q _ s2 v H2 (by rw [em, em']; exact hk _) ⟨G, ω, h3.pop.pop.pushF w3⟩⟩
    · cases ec
theorem rd_dget1 (h : RD F tmp s td m (fun tm1 s1 m1 => (∃ k0 l0, valS s1 tm1 = some (.dct k0 l0)) ∧ ∀ x, RD F ((x, tm1) :: tmp) s1 ty m1 (fun tm2 s2 m2 => ∃ a b k, valS s2 tm1 = some a ∧ valS s2 tm2 = some b ∧ m2 = ob (dget1D a b) k ∧ ∀ c, K (.own (.f c)) s2 (k c)))) : RD F tmp s (tDGet1 td ty) m K := fun σ H Q hh nf eo q =>
  h σ H _ hh nf eo fun tm1 s1 x H1 ⟨⟨k0, l0, e0⟩, h2⟩ h1 => by
    have hd : ∃ a, x = .ref a ∧ IsD H1 a := by
      obtain ⟨G, ω, h3⟩ := h1
      have r := h3.repC h3.tm.1 e0
      cases k0 with
      | false => obtain ⟨a, kvs, e, g, _⟩ := r; exact ⟨a, e, .inl ⟨kvs, .inl g⟩⟩
      | true => obtain ⟨a, kvs, e, g, _⟩ := r; exact ⟨a, e, .inr ⟨kvs, .inl g⟩⟩
    obtain ⟨a0, ea0, hisd⟩ := hd
    refine ⟨a0, ea0, hisd, h2 x σ H1 _ h1 nf eo fun tm2 s2 y H2 ⟨a, b, k, ea, eb, em, hk⟩ h3 => ?_⟩
    obtain ⟨c, ec, em'⟩ := ob_cases (by rw [← em]; exact nf)
    have h4 := h3
    obtain ⟨G, ω, h3⟩ := h3
    have ra := h3.repC h3.tm.2.1 ea
    have rb := h3.repC h3.tm.1 eb
    cases a <;> try (cases ec; done)
    simp only [dget1D] at ec
    split at ec
    · rename_i ok
      obtain ⟨p, o, e1, g, w⟩ := dget_any h3.gH ra rb ok
      have e1' : x = .ref p := e1
      rw [ea0] at e1'; cases e1'
      refine ⟨o, g, ?_⟩
      rcases w with ⟨w1, w2⟩ | ⟨c', v, w1, w2, w3⟩
      · rw [w1] at ec; cases ec
        rw [w2]
        exact q _ s2 .non H2 (by rw [em, em']; exact hk _) (holds_push (d := .non) h4.pop.pop fun _ => rfl)
      · rw [w1] at ec; cases ec
        rw [w2]
        exact q _ s2 v H2 (by rw [em, em']; exact hk _) ⟨G, ω, h3.pop.pop.pushF w3⟩
    · cases ec
theorem din_core {b : Bool} {f : Bool → Bool} {σ : St} {H1 : Hp} {tm1 tm2 : TM} {s2 : State} {x y : V} {d a : D} (h3 : Holds F ((x, tm2) :: (y, tm1) :: tmp) s2 σ H1) (ed : valS s2 tm1 = some d) (ea : valS s2 tm2 = some a) (ec : dinD d a = some b) : ∃ p o, x = .ref p ∧ DGet H1 p y o ∧ o.isSome = b := by
  obtain ⟨G, ω, h3⟩ := h3
  have rd := h3.repC h3.tm.2.1 ed
  have ra := h3.repC h3.tm.1 ea
  cases a <;> try (cases ec; done)
  simp only [dinD] at ec
  split at ec
  · rename_i ok
    cases ec
    obtain ⟨p, o, e1, g, w⟩ := dget_any h3.gH ra rd ok
    refine ⟨p, o, e1, g, ?_⟩
    rcases w with ⟨w1, w2⟩ | ⟨c', v, w1, w2, w3⟩ <;> (rw [w1, w2]; rfl)
  · cases ec
theorem rt_din {K : Bool → State → Res R → Prop} (h : RD F tmp s ty m (fun tm1 s1 m1 => ∀ y, RD F ((y, tm1) :: tmp) s1 td m1 (fun tm2 s2 m2 => ∃ d a k, valS s2 tm1 = some d ∧ valS s2 tm2 = some a ∧ m2 = ob (dinD d a) k ∧ ∀ c, K c s2 (k c)))) : RT F tmp s m (tB (tDIn ty td)) K := fun σ H Q hh nf eo q =>
  h σ H _ hh nf eo fun tm1 s1 y H1 h2 h1 => h2 y σ H1 _ h1 nf eo fun tm2 s2 x H2 ⟨d, a, k, ed, ea, em, hk⟩ h3 => by
    obtain ⟨c, ec, em'⟩ := ob_cases (by rw [← em]; exact nf)
    obtain ⟨p, o, e1, g, e2⟩ := din_core (f := id) h3 ed ea ec
    exact ⟨p, o, e1, g, c, by rw [e2], q _ s2 H2 (by rw [em, em']; exact hk _) h3.pop.pop⟩
theorem rt_dnotin {K : Bool → State → Res R → Prop} (h : RD F tmp s ty m (fun tm1 s1 m1 => ∀ y, RD F ((y, tm1) :: tmp) s1 td m1 (fun tm2 s2 m2 => ∃ d a k, valS s2 tm1 = some d ∧ valS s2 tm2 = some a ∧ m2 = ob (dinD d a) k ∧ ∀ c, K (!c) s2 (k c)))) : RT F tmp s m (tB (tDNotIn ty td)) K := fun σ H Q hh nf eo q =>
  h σ H _ hh nf eo fun tm1 s1 y H1 h2 h1 => h2 y σ H1 _ h1 nf eo fun tm2 s2 x H2 ⟨d, a, k, ed, ea, em, hk⟩ h3 => by
    obtain ⟨c, ec, em'⟩ := ob_cases (by rw [← em]; exact nf)
    obtain ⟨p, o, e1, g, e2⟩ := din_core (f := id) h3 ed ea ec
    exact ⟨p, o, e1, g, !c, by rw [e2], q _ s2 H2 (by rw [em, em']; exact hk _) h3.pop.pop⟩
theorem rd_dnewK (k : K (.own (.dc false [])) s m) : RD F tmp s tDNewK m K := fun σ H Q hh nf eo q => fun p np => by
  obtain ⟨G, ω, h⟩ := hh
  exact q _ s _ _ k ⟨G, _, h.newO np ⟨p, [], rfl, by simp, upd_same, rfl⟩⟩
theorem rd_dnewT (k : K (.own (.dc true [])) s m) : RD F tmp s tDNewT m K := fun σ H Q hh nf eo q => fun p np => by
  obtain ⟨G, ω, h⟩ := hh
  exact q _ s _ _ k ⟨G, _, h.newO np ⟨p, [], rfl, by simp, upd_same, rfl⟩⟩
/-- an owned dict in slot i -/
theorem Holds.wrDict {σ : St} {H : Hp} {c d : D} {x y : V} {k : Bool} (h : Holds F ((y, .own (.f d)) :: (x, .own (.f c)) :: tmp) s σ H) {i : Nat} {l : List (D × D)} (hi : s[i]? = some (some (.dc k l))) (ok : keyOk k d = true) (hz : l.length < 16777216) :
    ∃ a H', σ[i]? = some (some (.ref a)) ∧ DPut H a y x H' ∧ Holds F tmp (s.set i (some (.dc k (storeD l d c)))) σ H' := by
  obtain ⟨G, ω, h⟩ := h
  have ry : Rep G d y := h.tm.1
  have rx : Rep G c x := h.tm.2.1
  have fin : ∀ {a : Addr} {o : HO}, ω a = some [0, i] → σ[i]? = some (some (.ref a)) → Own G (upd H a o) ω [0, i] (.dc k (storeD l d c)) (.ref a) → Holds F tmp (s.set i (some (.dc k (storeD l d c)))) σ (upd H a o) := fun {a o} hw e1 q => by
    refine ⟨G, ω, (h.pop.pop).wr hw o (by simp) (fun j u e => ?_) (Tms.wrO hw tmp (fun j hj => by simp [pre]) h.tm.2.2)⟩
    have hil : i < s.length := (List.getElem?_eq_some_iff.mp hi).1
    by_cases hj : i = j
    · subst hj
      rw [List.getElem?_set_self hil] at e
      cases e
      exact ⟨_, e1, q⟩
    · rw [List.getElem?_set_ne hj] at e
      obtain ⟨v', b1, b2⟩ := h.sl j u e
      exact ⟨v', b1, Own.wrO hw (by simp [pre]; exact fun z => hj z.symm) b2⟩
  cases k with
  | false =>
    obtain ⟨v, e1, a, kvs, e2, hw, ha, r⟩ := h.sl i _ hi
    subst e2
    obtain ⟨kk, hk⟩ := Option.isSome_iff_exists.mp (show (keyK d).isSome = true from ok)
    have hl : kvs.length < sizeLine := by
      have : ∀ {l : List (D × D)} {kvs : List (Key × V)}, RepK G l kvs → l.length = kvs.length := by
        intro l
        induction l with
        | nil => intro kvs h; cases (show kvs = [] from h); rfl
        | cons kv r ih =>
          obtain ⟨k, c'⟩ := kv
          intro kvs ⟨k', v', q, e, ek, rc', h'⟩
          subst e
          simp [ih h']
      rw [← this r, sizeLine_eq]; exact hz
    refine ⟨a, _, e1, by rw [rep_key hk (Rep.mono h.gH _ _ ry)]; exact .k ha hl, fin hw e1 ⟨a, _, rfl, hw, upd_same, repK_store (keyK_kD hk) rx r⟩⟩
  | true =>
    obtain ⟨v, e1, a, kvs, e2, hw, ha, r⟩ := h.sl i _ hi
    subst e2
    obtain ⟨kk, hk⟩ := Option.isSome_iff_exists.mp (show (keyT d).isSome = true from ok)
    have hl : kvs.length < sizeLine := by
      have : ∀ {l : List (D × D)} {kvs : List (List Key × V)}, RepT G l kvs → l.length = kvs.length := by
        intro l
        induction l with
        | nil => intro kvs h; cases (show kvs = [] from h); rfl
        | cons kv r ih =>
          obtain ⟨k, c'⟩ := kv
          intro kvs ⟨k', v', q, e, ek, rc', h'⟩
          subst e
          simp [ih h']
      rw [← this r, sizeLine_eq]; exact hz
    cases d <;> try (cases hk; done)
    rename_i ks
    have hk' : keysK ks = some kk := hk
    obtain ⟨b, vs, e2, g2, _, r2⟩ := Rep.mono h.gH _ _ ry
    have hv := reps_keys hk' r2
    rw [hv] at g2
    rw [e2]
    exact ⟨a, _, e1, .t ha g2 hl, fin hw e1 ⟨a, _, rfl, hw, upd_same, repT_store (by rw [keysK_kD hk'] : D.tup ks = .tup (kk.map kD)) rx r⟩⟩
theorem rs_dput (h : RD F tmp s tv m (fun tm1 s1 m1 => ∃ c, tm1 = .own (.f c) ∧ ∀ v, RD F ((v, .own (.f c)) :: tmp) s1 td m1 (fun tm2 s2 m2 => ∃ i, tm2 = .ali i ∧ ∀ x, RD F ((x, .ali i) :: (v, .own (.f c)) :: tmp) s2 ty m2 (fun tm3 s3 m3 => ∃ d kf l k, tm3 = .own (.f d) ∧ s3[i]? = some (some (.dc kf l)) ∧ m3 = ob (dputD kf l d c) k ∧ ∀ l', N (s3.set i (some (.dc kf l'))) (k l'))))) :
    RS F tmp s m (sDPut td ty tv) N Rt := fun σ H De hh nf eo nx rt =>
  h σ H _ hh nf eo fun tm1 s1 v H1 ⟨c, e1, h2⟩ h1 => by
    subst e1
    refine h2 v σ H1 _ h1 nf eo fun tm2 s2 x H2 ⟨i, e2, h4⟩ h3 => ?_
    subst e2
    refine h4 x σ H2 _ h3 nf eo fun tm3 s3 y H3 ⟨d, kf, l, k, e3, hi, em, hk⟩ h5 => ?_
    subst e3
    obtain ⟨c', ec, em'⟩ := ob_cases (by rw [← em]; exact nf)
    unfold dputD at ec
    split at ec
    · rename_i ok
      cases ec
      have hx : σ[i]? = some (some x) := by obtain ⟨G, ω, h6⟩ := h5; exact h6.tm.2.1
      have h6 : Holds F ((y, .own (.f d)) :: (v, .own (.f c)) :: tmp) s3 σ H3 := Holds.dropMid (ex := [(x, .ali i)]) [(y, .own (.f d))] h5
      obtain ⟨a, H', sa, put, h7⟩ := h6.wrDict hi ok.1 ok.2
      rw [hx] at sa; cases sa
      exact ⟨a, H', rfl, put, nx _ σ H' (by rw [em, em']; exact hk _) h7⟩
    · cases ec
end
end VL

namespace VL
open PySem L2

/-! a call that reads owned things -/
mutual
def T.fl : T → Bool
  | .f d => d.flat
  | .l ds => ds.all D.flat
  | .ll ts => T.fls ts
  | .tt ts => T.fls ts
  | .dc _ kvs => kvs.all fun kv => kv.2.flat
  | .hole _ => true
def T.fls : List T → Bool
  | [] => true
  | t :: r => T.fl t && T.fls r
end
theorem Rep.flat {G G' : Hp} : ∀ {d : D} {v : V}, d.flat = true → Rep G d v → Rep G' d v
  | .non, _, _, h => h
  | .bl _, _, _, h => h
  | .int _, _, _, h => h
  | .str _, _, _, h => h
theorem Reps.flat {G G' : Hp} : ∀ {l : List D} {vs : List V}, l.all D.flat = true → Reps G l vs → Reps G' l vs
  | [], _, _, h => h
  | d :: r, _, f, ⟨v, q, e, h, k⟩ => by
    simp only [List.all_cons, Bool.and_eq_true] at f
    exact ⟨v, q, e, Rep.flat f.1 h, Reps.flat f.2 k⟩
theorem RepK.flat {G G' : Hp} : ∀ {l : List (D × D)} {vs : List (Key × V)}, (l.all fun kv => kv.2.flat) = true → RepK G l vs → RepK G' l vs
  | [], _, _, h => h
  | (a, d) :: r, _, f, ⟨kk, v, q, e, ek, h, k⟩ => by
    simp only [List.all_cons, Bool.and_eq_true] at f
    exact ⟨kk, v, q, e, ek, Rep.flat f.1 h, RepK.flat f.2 k⟩
theorem RepT.flat {G G' : Hp} : ∀ {l : List (D × D)} {vs : List (List Key × V)}, (l.all fun kv => kv.2.flat) = true → RepT G l vs → RepT G' l vs
  | [], _, _, h => h
  | (a, d) :: r, _, f, ⟨kk, v, q, e, ek, h, k⟩ => by
    simp only [List.all_cons, Bool.and_eq_true] at f
    exact ⟨kk, v, q, e, ek, Rep.flat f.1 h, RepT.flat f.2 k⟩
mutual
theorem Own.flat {G G' H H' : Hp} {ω ω' : Addr → Option Lab} : ∀ (p q : Lab) (t : T) (v : V), t.fl = true → (∀ a x, ω a = some (p ++ x) → H' a = H a ∧ ω' a = some (q ++ x)) → Own G H ω p t v → Own G' H' ω' q t v
  | _, _, .f d, v, f, _, h => Rep.flat f h
  | p, q, .l ds, v, f, m, ⟨a, vs, e, h, w, z, r⟩ => by
    obtain ⟨m1, m2⟩ := m a [] (by rw [List.append_nil]; exact w)
    rw [List.append_nil] at m2
    exact ⟨a, vs, e, m1.trans h, m2, z, Reps.flat f r⟩
  | p, q, .ll ts, v, f, m, ⟨a, vs, e, h, w, z, r⟩ => by
    obtain ⟨m1, m2⟩ := m a [] (by rw [List.append_nil]; exact w)
    rw [List.append_nil] at m2
    exact ⟨a, vs, e, m1.trans h, m2, z, Owns.flat p q 0 ts vs f m r⟩
  | p, q, .tt ts, v, f, m, ⟨a, vs, e, h, w, z, r⟩ => by
    obtain ⟨m1, m2⟩ := m a [] (by rw [List.append_nil]; exact w)
    rw [List.append_nil] at m2
    exact ⟨a, vs, e, m1.trans h, m2, z, Owns.flat p q 0 ts vs f m r⟩
  | p, q, .dc false l, v, f, m, ⟨a, kvs, e, w, h, r⟩ => by
    obtain ⟨m1, m2⟩ := m a [] (by rw [List.append_nil]; exact w)
    rw [List.append_nil] at m2
    exact ⟨a, kvs, e, m2, m1.trans h, RepK.flat f r⟩
  | p, q, .dc true l, v, f, m, ⟨a, kvs, e, w, h, r⟩ => by
    obtain ⟨m1, m2⟩ := m a [] (by rw [List.append_nil]; exact w)
    rw [List.append_nil] at m2
    exact ⟨a, kvs, e, m2, m1.trans h, RepT.flat f r⟩
  | _, _, .hole _, _, _, _, h => h
theorem Owns.flat {G G' H H' : Hp} {ω ω' : Addr → Option Lab} : ∀ (p q : Lab) (i : Nat) (ts : List T) (vs : List V), T.fls ts = true → (∀ a x, ω a = some (p ++ x) → H' a = H a ∧ ω' a = some (q ++ x)) → Owns G H ω p i ts vs → Owns G' H' ω' q i ts vs
  | _, _, _, [], _, _, _, h => h
  | p, q, i, t :: ts, _, f, m, ⟨v, r, e, h, k⟩ => by
    simp only [T.fls, Bool.and_eq_true] at f
    exact ⟨v, r, e, Own.flat (p ++ [i]) (q ++ [i]) t v f.1 (fun a x e => by
      rw [List.append_assoc] at e ⊢
      exact m a _ e) h, Owns.flat p q (i + 1) ts r f.2 m k⟩
end
def argOk (s : State) (bs : List Nat) : List TM → List TM → List T → Prop
  | [], [], [] => True
  | .own t :: r, .own _ :: q, u :: w => t = u ∧ argOk s bs r q w
  | .ali i :: r, .ali j :: q, u :: w => i = j ∧ s[i]? = some (some u) ∧ i ∉ bs ∧ argOk s bs r q w
  | .ali i :: r, .own _ :: q, u :: w => i ∈ bs ∧ (∃ d, valT s (.ali i) = some d ∧ u = .f d) ∧ argOk s bs r q w
  | _, _, _ => False
theorem argOk_len {s : State} {bs : List Nat} : ∀ {tms mk : List TM} {ts : List T}, argOk s bs tms mk ts → tms.length = ts.length ∧ mk.length = ts.length
  | [], [], [], _ => ⟨rfl, rfl⟩
  | .own t :: r, .own _ :: q, u :: w, h => by have := argOk_len h.2; simp [this.1, this.2]
  | .ali i :: r, .ali j :: q, u :: w, h => by have := argOk_len h.2.2.2; simp [this.1, this.2]
  | .ali i :: r, .own _ :: q, u :: w, h => by have := argOk_len h.2.2; simp [this.1, this.2]
theorem argOk_get {s : State} {bs : List Nat} : ∀ {tms mk : List TM} {ts : List T}, argOk s bs tms mk ts → ∀ (k : Nat) (u : T), ts[k]? = some u → ∃ tm, tms[k]? = some tm ∧
    (tm = .own u ∨ (∃ i, tm = .ali i ∧ mk[k]? = some (.ali i) ∧ s[i]? = some (some u)) ∨ ∃ i d, tm = .ali i ∧ i ∈ bs ∧ valT s (.ali i) = some d ∧ u = .f d)
  | [], [], [], _, k, u, e => by simp at e
  | .own t :: r, .own x :: q, u0 :: w, h, 0, u, e => by simp at e; subst e; exact ⟨_, rfl, .inl (by rw [h.1])⟩
  | .ali i :: r, .ali j :: q, u0 :: w, h, 0, u, e => by simp at e; subst e; exact ⟨_, rfl, .inr (.inl ⟨i, rfl, by rw [h.1]; rfl, h.2.1⟩)⟩
  | .ali i :: r, .own x :: q, u0 :: w, h, 0, u, e => by
    simp at e; subst e
    obtain ⟨d, d1, d2⟩ := h.2.1
    exact ⟨_, rfl, .inr (.inr ⟨i, d, rfl, h.1, d1, d2⟩)⟩
  | .own t :: r, .own x :: q, u0 :: w, h, k + 1, u, e => by
    obtain ⟨tm, a, b⟩ := argOk_get h.2 k u (by simpa using e)
    exact ⟨tm, by simpa using a, by simpa using b⟩
  | .ali i :: r, .ali j :: q, u0 :: w, h, k + 1, u, e => by
    obtain ⟨tm, a, b⟩ := argOk_get h.2.2.2 k u (by simpa using e)
    exact ⟨tm, by simpa using a, by simpa using b⟩
  | .ali i :: r, .own x :: q, u0 :: w, h, k + 1, u, e => by
    obtain ⟨tm, a, b⟩ := argOk_get h.2.2 k u (by simpa using e)
    exact ⟨tm, by simpa using a, by simpa using b⟩
theorem argOk_ali {s : State} {bs : List Nat} : ∀ {tms mk : List TM} {ts : List T}, argOk s bs tms mk ts → ∀ (k i : Nat), mk[k]? = some (.ali i) → tms[k]? = some (.ali i) ∧ i ∉ bs
  | [], [], [], _, k, i, e => by simp at e
  | .own t :: r, .own x :: q, u0 :: w, h, 0, i, e => by simp at e
  | .ali i0 :: r, .ali j :: q, u0 :: w, h, 0, i, e => by simp at e; subst e; exact ⟨by rw [h.1]; rfl, by rw [← h.1]; exact h.2.2.1⟩
  | .ali i0 :: r, .own x :: q, u0 :: w, h, 0, i, e => by simp at e
  | .own t :: r, .own x :: q, u0 :: w, h, k + 1, i, e => by have := argOk_ali h.2 k i (by simpa using e); simpa using this
  | .ali i0 :: r, .ali j :: q, u0 :: w, h, k + 1, i, e => by have := argOk_ali h.2.2.2 k i (by simpa using e); simpa using this
  | .ali i0 :: r, .own x :: q, u0 :: w, h, k + 1, i, e => by have := argOk_ali h.2.2 k i (by simpa using e); simpa using this
def bor (bs : List Nat) : Lab → Bool
  | 0 :: i :: _ => bs.contains i
  | _ => false
def borG (G H : Hp) (ω : Addr → Option Lab) (bs : List Nat) : Hp := fun a => match ω a with
  | some l => if bor bs l = true then H a else G a
  | none => G a
def outG (G' : Hp) (ω : Addr → Option Lab) (bs : List Nat) : Hp := fun a => match ω a with
  | some l => if bor bs l = true then none else G' a
  | none => G' a
theorem rd_callB {A R R' : Type} {ec : Nat → Addr} {ea : A → List T} {mir : A → Res R'} {er : R' → T} {eo : R' → List (Option T)} {F : Fc} {tmp : Tmp} {s : State} {m : Res R} {K : Rs R} {t : TA} {E : XK} (bs : List Nat) (hec : F.ec = ec) (hE : F.E = E)
    (h : RA F tmp s m t (fun tms s1 m1 => ∃ (a : A) (k : R' → Res R) (mk : List TM), m1 = rb (mir a) k ∧ argOk s1 bs tms mk (ea a) ∧ aliNd mk = true ∧ ∀ r, k r ≠ .fail → (er r).fl = true ∧ (∀ (j : Nat) u, (eo r)[j]? = some (some u) → u.fl = true) ∧ K (.own (er r)) (putOuts s1 mk (eo r)) (k r))) :
    RD F tmp s (tCall (spOf ec ea mir er eo) [] E t) m K := fun σ H Q hh nf eo' q => by
  refine h σ H _ hh nf eo' fun tms s1 vs H1 ⟨a, k, mk, em, ht, nd, hk⟩ hl h1 => ?_
  obtain ⟨G, ω, h1⟩ := h1
  obtain ⟨ht0, hargs⟩ := Tms.args vs tms tmp hl h1.tm
  obtain ⟨hlen, hlenm⟩ := argOk_len ht
  rw [List.append_nil]
  have hnb : ∀ i, i ∈ bs → aIdx i mk = none := fun i hi => by
    cases e : aIdx i mk with
    | none => rfl
    | some j => exact absurd hi (argOk_ali ht j i (aIdx_get e)).2
  have hwc : ∀ x, ((rl ω (psi tmp.length mk)) x).isSome = true → (ω x).isSome = true := fun x hx => by
    obtain ⟨lab, e⟩ := Option.isSome_iff_exists.mp hx
    obtain ⟨p, e1, _⟩ := rl_some e
    rw [e1]; rfl
  have bpsi : ∀ l, bor bs l = true → psi tmp.length mk l = none := fun l hb => by
    match l, hb with
    | 0 :: i :: x, hb =>
      have hi : i ∈ bs := by simpa [bor] using hb
      simp [psi, hnb i hi]
    | [], hb => cases hb
    | [0], hb => cases hb
    | (_ + 1) :: _, hb => cases hb
  have gGc : Same G (borG G H1 ω bs) := fun x o e => by
    unfold borG
    cases e2 : ω x with
    | none => exact e
    | some l => rw [(h1.wg x l e2).1] at e; cases e
  have gcH : Same (borG G H1 ω bs) H1 := fun x o e => by
    unfold borG at e
    cases e2 : ω x with
    | none => rw [e2] at e; exact h1.gH x o e
    | some l =>
      rw [e2] at e
      simp only at e
      split at e
      · exact e
      · exact h1.gH x o e
  have cases := rb_cases (by rw [← em]; exact nf : rb (mir a) k ≠ .fail)
  refine ⟨a, borG G H1 ω bs, rl ω (psi tmp.length mk), gcH, fun x p e => ?_, by rw [hl, hlen], fun j u e => ?_, fun z => ?_, fun r v H' er' po => ?_, fun e od H' ee po => ?_⟩
  · obtain ⟨p', e1, e2⟩ := rl_some e
    refine ⟨?_, (h1.wg x p' e1).2.1⟩
    unfold borG
    rw [e1]
    simp only
    split
    · rename_i hb
      rw [bpsi p' hb] at e2; cases e2
    · exact (h1.wg x p' e1).1
  · have hj : j < mk.length := by rw [hlenm]; exact (List.getElem?_eq_some_iff.mp e).1
    obtain ⟨tm, e3, w⟩ := argOk_get ht j u e
    obtain ⟨v, ev, ok⟩ := hargs j tm e3
    refine ⟨v, ev, ?_⟩
    rcases w with w | ⟨i, w, w2, w3⟩ | ⟨i, d, w, w2, w3, w4⟩
    · subst w
      exact Own.move gGc _ _ u v (fun x y z => ⟨rfl, rl_of z (by simp [psi, hj])⟩) ok
    · subst w
      obtain ⟨v', a1, a2⟩ := h1.sl i u w3
      have ok' : σ[i]? = some (some v) := ok
      rw [ok'] at a1; cases a1
      exact Own.move gGc _ _ u v (fun x y z => ⟨rfl, rl_of z (by simp [psi, aIdx_of nd w2])⟩) a2
    · subst w; subst w4
      have ok' : σ[i]? = some (some v) := ok
      cases e5 : s1[i]? with
      | none => simp [valT, treeAt, e5] at w3
      | some o =>
        cases o with
        | none => simp [valT, treeAt, e5] at w3
        | some tr =>
          simp [valT, treeAt, e5] at w3
          obtain ⟨v', a1, a2⟩ := h1.sl i tr e5
          rw [ok'] at a1; cases a1
          rw [← w3]
          exact Own.rep gGc _ tr v (fun x y z o ho => by
            unfold borG
            rw [z]
            have : bor bs ([0, i] ++ y) = true := by simp [bor, w2]
            simp only [this, if_true]
            exact ho) a2
  · rcases cases with ⟨b, e1, _⟩ | ⟨b, e1, _⟩ <;> (rw [z] at e1; cases e1)
  · have em' : m = k r := by rw [em, er']; rfl
    obtain ⟨fr, fo, hk⟩ := hk r (by rw [← em']; exact nf)
    obtain ⟨G', ω', pa, pw, pr, pouts⟩ := po
    obtain ⟨p1, p2, p3, p4, p5⟩ := pa
    have g1 : Same G (outG G' ω bs) := fun x o e => by
      have := p1 x o (gGc x o e)
      unfold outG
      cases e2 : ω x with
      | none => exact this
      | some l => rw [(h1.wg x l e2).1] at e; cases e
    have outLe : ∀ x o, outG G' ω bs x = some o → G' x = some o ∧ ∀ l, ω x = some l → bor bs l = false := fun x o e => by
      unfold outG at e
      cases e2 : ω x with
      | none => rw [e2] at e; exact ⟨e, fun l z => by cases z⟩
      | some l =>
        rw [e2] at e
        simp only at e
        split at e
        · cases e
        · rename_i hb
          exact ⟨e, fun l' z => by cases z; exact Bool.eq_false_iff.mpr hb⟩
    have p3' : ∀ x o, outG G' ω bs x = some o → G x = some o ∨ H1 x = none ∨ ((rl ω (psi tmp.length mk)) x).isSome = true := fun x o e => by
      obtain ⟨e1, e2⟩ := outLe x o e
      rcases p3 x o e1 with z | z
      · unfold borG at z
        cases e3 : ω x with
        | none => rw [e3] at z; exact .inl z
        | some l =>
          rw [e3] at z
          simp only [e2 l e3, Bool.false_eq_true, if_false] at z
          exact .inl z
      · exact .inr z
    obtain ⟨f1, f2, f3, f4, f5⟩ := wAfter.errP h1 hwc ⟨g1, fun x o e => p2 x o (outLe x o e).1, p3', p4, p5⟩
    have lent : ∀ x lab, ω x = some lab → (psi tmp.length mk lab).isSome = false → ω' x = none := fun x lab e1 e2 => by
      cases e3 : ω' x with
      | none => rfl
      | some l2 =>
        rcases (pw x l2 e3).2.2 with z | z
        · obtain ⟨o, ho⟩ := (h1.wg x lab e1).2.1
          rw [ho] at z; cases z
        · unfold rl at z
          rw [e1] at z
          rw [show ((some lab).bind (psi tmp.length mk)) = psi tmp.length mk lab from rfl, e2] at z
          cases z
    have back : ∀ x l2 l3, ω' x = some l2 → chi tmp.length mk l2 = some l3 → wBack ω ω' tmp.length mk x = some l3 := fun x l2 l3 e1 e2 => by
      unfold wBack
      cases e3 : ω x with
      | none => simp only [e1]; exact e2
      | some lab =>
        cases e4 : (psi tmp.length mk lab).isSome with
        | true => simp only [e4, if_true, e1]; exact e2
        | false =>
          rw [lent x lab e3 e4] at e1
          cases e1
    have kept : ∀ x lab, ω x = some lab → psi tmp.length mk lab = none → H' x = H1 x ∧ wBack ω ω' tmp.length mk x = some lab := fun x lab e1 e2 => by
      obtain ⟨o, ho⟩ := (h1.wg x lab e1).2.1
      refine ⟨?_, ?_⟩
      · rw [ho]
        exact p4 x o ho (by unfold rl; rw [e1]; exact e2)
      · unfold wBack
        rw [e1]
        simp [e2]
    refine q (.own (er r)) (putOuts s1 mk (eo r)) v H' (by rw [em']; exact hk) ⟨outG G' ω bs, wBack ω ω' tmp.length mk, f1, f2, f3, f4, f5, fun x p e => ?_, ?_, fun i u e => ?_, ⟨?_, ?_⟩, h1.pn⟩
    · have outN : G' x = none → outG G' ω bs x = none := fun z => by
        unfold outG
        split
        · split
          · rfl
          · exact z
        · exact z
      unfold wBack at e
      have fromNew : (ω' x).bind (chi tmp.length mk) = some p → outG G' ω bs x = none ∧ (∃ o, H' x = some o) ∧ (F.H0 x = none ∨ (F.w0 x).isSome = true) := fun e => by
        cases e3 : ω' x with
        | none => rw [e3] at e; cases e
        | some l2 =>
          obtain ⟨w1, w2, w3⟩ := pw x l2 e3
          refine ⟨outN w1, w2, ?_⟩
          rcases w3 with z | z
          · exact .inl (h1.new z)
          · obtain ⟨lab, hl2⟩ := Option.isSome_iff_exists.mp (hwc x z)
            exact (h1.wg x lab hl2).2.2
      split at e
      · rename_i lab e1
        split at e
        · exact fromNew e
        · rename_i hn
          have hn' : psi tmp.length mk lab = none := by simpa using hn
          cases e
          obtain ⟨g1', ⟨o, ho⟩, g3⟩ := h1.wg x _ e1
          refine ⟨?_, ⟨o, ?_⟩, g3⟩
          · cases e5 : outG G' ω bs x with
            | none => rfl
            | some o2 =>
              rcases p3' x o2 e5 with z | z | z
              · rw [g1'] at z; cases z
              · rw [ho] at z; cases z
              · unfold rl at z
                rw [e1] at z
                rw [show ((some p).bind (psi tmp.length mk)) = psi tmp.length mk p from rfl, hn'] at z
                cases z
          · rw [(kept x p e1 hn').1]; exact ho
      · exact fromNew e
    · rw [putOuts_len]; exact h1.len
    · cases e1 : aIdx i mk with
      | none =>
        rw [putOuts_none mk s1 _ i e1] at e
        obtain ⟨v', a1, a2⟩ := h1.sl i u e
        exact ⟨v', a1, Own.move g1 _ _ u v' (fun x y w => kept x _ w (by simp [psi, e1])) a2⟩
      | some j =>
        have ej := putOuts_some mk s1 _ i j u nd e1 e
        obtain ⟨w, w1, w2⟩ := pouts j u ej
        obtain ⟨v', a1, a2⟩ := hargs j _ (argOk_ali ht j i (aIdx_get e1)).1
        rw [w1] at a1
        cases a1
        exact ⟨w, a2, Own.flat _ _ u w (fo j u ej) (fun x y z => ⟨rfl, back x _ _ z (by simp [chi, aIdx_get e1])⟩) w2⟩
    · exact Own.flat _ _ _ v fr (fun x y z => ⟨rfl, back x _ _ z (by simp [chi])⟩) pr
    · exact Tms.move g1 tmp (fun j x y hj w => kept x _ w (by
        have : ¬ (tmp.length ≤ j ∧ j < tmp.length + mk.length) := by omega
        simp [psi, this])) ht0
  · have em' : m = .err e := by rw [em, ee]; rfl
    obtain ⟨G', ⟨p1, p2, p3, p4, p5⟩, pe⟩ := po
    have g1 : Same F.G0 G' := fun x o e => p1 x o (gGc x o (h1.g0 x o e))
    rw [← hE, ← hec]
    have h4 : ∀ x o, F.H0 x = some o → F.w0 x = none → H' x = some o := fun x o e w => by
      refine p4 x o (h1.fr x o e w) ?_
      cases q2 : (rl ω (psi tmp.length mk)) x with
      | none => rfl
      | some lab =>
        obtain ⟨lab', hl2⟩ := Option.isSome_iff_exists.mp (hwc x (by rw [q2]; rfl))
        rcases (h1.wg x lab' hl2).2.2 with z | z
        · rw [e] at z; cases z
        · rw [w] at z; cases z
    refine eo' e em' od H' ⟨G', g1, p2, fun x o e => ?_, h4, fun x o e => ?_, ?_⟩
    · rcases p3 x o e with z | z | z
      · unfold borG at z
        cases e3 : ω x with
        | none => rw [e3] at z; exact h1.gn x o z
        | some l =>
          exact .inr (h1.wg x l e3).2.2
      · exact .inr (.inl (h1.new z))
      · obtain ⟨lab, hl2⟩ := Option.isSome_iff_exists.mp (hwc x z)
        exact .inr (h1.wg x lab hl2).2.2
    · obtain ⟨o', e'⟩ := h1.ex x o e
      exact p5 x o' e'
    · cases e6 : e.a with
      | none => rw [e6] at pe; exact pe
      | some d =>
        rw [e6] at pe
        obtain ⟨dx, v, b1, b2, b3, b4⟩ := pe
        exact ⟨dx, v, b1, h1.new b2, b3, b4⟩
end VL

namespace VL
open PySem L2

/-! owned lists of owned things -/
section
variable {G G' H H' : Hp} {ω ω' : Addr → Option Lab}
theorem Owns.len : ∀ {ts : List T} {vs : List V} {p : Lab} {i : Nat}, Owns G H ω p i ts vs → ts.length = vs.length
  | [], _, _, _, h => by cases (show _ = [] from h); rfl
  | t :: ts, _, _, _, ⟨v, r, e, _, k⟩ => by subst e; simp [Owns.len k]
theorem Owns.get : ∀ {ts : List T} {vs : List V} {p : Lab} {i j : Nat} {t : T}, Owns G H ω p i ts vs → ts[j]? = some t → ∃ v, vs[j]? = some v ∧ Own G H ω (p ++ [i + j]) t v
  | [], _, _, _, _, _, _, e => by simp at e
  | t0 :: ts, _, _, i, 0, t, ⟨v, r, e, h, k⟩, e2 => by subst e; simp at e2; subst e2; exact ⟨v, rfl, h⟩
  | t0 :: ts, _, _, i, j + 1, t, ⟨v, r, e, h, k⟩, e2 => by
    subst e
    obtain ⟨w, a, b⟩ := Owns.get (j := j) k (by simpa using e2)
    exact ⟨w, by simpa using a, by rwa [show i + (j + 1) = i + 1 + j by omega]⟩
theorem Owns.of : ∀ {ts : List T} {vs : List V} {p : Lab} {i : Nat}, ts.length = vs.length → (∀ (j : Nat) t v, ts[j]? = some t → vs[j]? = some v → Own G H ω (p ++ [i + j]) t v) → Owns G H ω p i ts vs
  | [], [], _, _, _, _ => rfl
  | [], _ :: _, _, _, e, _ => by simp at e
  | _ :: _, [], _, _, e, _ => by simp at e
  | t :: ts, v :: vs, p, i, e, h => ⟨v, vs, rfl, h 0 t v rfl rfl, Owns.of (by simpa using e) fun j t' v' a b => by
      have := h (j + 1) t' v' (by simpa using a) (by simpa using b)
      rwa [show i + (j + 1) = i + 1 + j by omega] at this⟩
end
def phiOut (n i j : Nat) : Lab → Option Lab
  | 0 :: a :: b :: x => if a = i ∧ b = j then some (1 :: n :: x) else some (0 :: a :: b :: x)
  | 1 :: a :: x => if a = n then none else some (1 :: a :: x)
  | l => some l
def phiIn (n i j : Nat) : Lab → Option Lab
  | 1 :: a :: x => if a = n then some (0 :: i :: j :: x) else some (1 :: a :: x)
  | 0 :: a :: b :: x => if a = i ∧ b = j then none else some (0 :: a :: b :: x)
  | l => some l
section
variable {F : Fc} {tmp : Tmp} {s : State} {σ : St} {H : Hp} {v : V} {t : T}
theorem Own.rlO {G : Hp} {ω : Addr → Option Lab} {φ : Lab → Option Lab} {p q : Lab} (h : Own G H ω p t v) (e : ∀ x, φ (p ++ x) = some (q ++ x)) : Own G H (VL.rl ω φ) q t v := Own.rl h e
/-- one of an owned list's things is taken out -/
theorem Holds.takeOut (h : Holds F tmp s σ H) {i j : Nat} {ts : List T} (hi : s[i]? = some (some (.ll ts))) (hj : ts[j]? = some t) :
    ∃ a vs v, σ[i]? = some (some (.ref a)) ∧ H a = some (.lst vs) ∧ vs.length = ts.length ∧ vs[j]? = some v ∧ Holds F ((v, .own t) :: tmp) (s.set i (some (.ll (ts.set j (.hole v))))) σ H := by
  obtain ⟨G, ω, h⟩ := h
  obtain ⟨u, e1, a, vs, e2, ha, hw, z, r⟩ := h.sl i _ hi
  subst e2
  obtain ⟨v, e3, e4⟩ := r.get hj
  rw [Nat.zero_add] at e4
  have hil : i < s.length := (List.getElem?_eq_some_iff.mp hi).1
  have hjl : j < ts.length := (List.getElem?_eq_some_iff.mp hj).1
  refine ⟨a, vs, v, e1, ha, r.len.symm, e3, G, _, h.rl (phiOut tmp.length i j) _ σ _ (by simp [h.len]) (fun k u e => ?_) ⟨?_, Tms.rl tmp (fun k x hk => ?_) h.tm⟩ h.pn⟩
  · by_cases hk : i = k
    · subst hk
      rw [List.getElem?_set_self hil] at e
      cases e
      refine ⟨_, e1, a, vs, rfl, ha, rl_of hw rfl, by simpa using z, Owns.of (by simp [r.len]) fun k t' v' a1 a2 => ?_⟩
      rw [List.getElem?_set] at a1
      rw [Nat.zero_add]
      by_cases hk : j = k
      · subst hk
        rw [if_pos rfl, if_pos hjl] at a1
        cases a1
        rw [e3] at a2; cases a2
        exact rfl
      · rw [if_neg hk] at a1
        obtain ⟨w, b1, b2⟩ := r.get a1
        rw [a2] at b1; cases b1
        rw [Nat.zero_add] at b2
        have hk' : ¬ k = j := fun z => hk z.symm
        exact Own.rl b2 fun x => by simp [phiOut, hk']
    · rw [List.getElem?_set_ne hk] at e
      obtain ⟨v', b1, b2⟩ := h.sl k u e
      have hk' : ¬ k = i := fun z => hk z.symm
      refine ⟨v', b1, Own.rl b2 fun x => ?_⟩
      cases x <;> simp [phiOut, hk']
  · exact Own.rl e4 fun x => by simp [phiOut]
  · have : ¬ k = tmp.length := by omega
    simp [phiOut, this]
/-- and put back -/
theorem Holds.putIn (pre : Tmp) (h : Holds F (pre ++ ((v, .own t) :: tmp)) s σ H) {i j : Nat} {ts : List T} (hi : s[i]? = some (some (.ll ts))) (hj : ts[j]? = some (.hole v)) :
    Holds F (pre ++ tmp) (s.set i (some (.ll (ts.set j t)))) σ H := by
  obtain ⟨G, ω, h⟩ := h
  obtain ⟨u, e1, a, vs, e2, ha, hw, z, r⟩ := h.sl i _ hi
  subst e2
  obtain ⟨v', e3, e4⟩ := r.get hj
  cases (show v' = v from e4)
  have hil : i < s.length := (List.getElem?_eq_some_iff.mp hi).1
  have hjl : j < ts.length := (List.getElem?_eq_some_iff.mp hj).1
  have ok : Own G H ω [1, tmp.length] t v := Tms.at (tm := .own t) pre h.tm
  have h0 : Tms G H ω σ tmp := (Tms.tail pre h.tm).2
  refine ⟨G, rl ω (fun l => (phiIn tmp.length i j l).bind (phiMid tmp.length 1)), h.rl _ _ σ _ (by simp [h.len]) (fun k u e => ?_) ?_ h.pn⟩
  · by_cases hk : i = k
    · subst hk
      rw [List.getElem?_set_self hil] at e
      cases e
      refine ⟨_, e1, a, vs, rfl, ha, rl_of hw rfl, by simpa using z, Owns.of (by simp [r.len]) fun k t' v2 a1 a2 => ?_⟩
      rw [List.getElem?_set] at a1
      rw [Nat.zero_add]
      by_cases hk : j = k
      · subst hk
        rw [if_pos rfl, if_pos hjl] at a1
        cases a1
        rw [e3] at a2; cases a2
        exact Own.rl ok fun x => by simp [phiIn, phiMid]
      · rw [if_neg hk] at a1
        obtain ⟨w, b1, b2⟩ := r.get a1
        rw [a2] at b1; cases b1
        rw [Nat.zero_add] at b2
        have hk' : ¬ k = j := fun z => hk z.symm
        exact Own.rl b2 fun x => by simp [phiIn, phiMid, hk']
    · rw [List.getElem?_set_ne hk] at e
      obtain ⟨v', b1, b2⟩ := h.sl k u e
      have hk' : ¬ k = i := fun z => hk z.symm
      refine ⟨v', b1, Own.rl b2 fun x => ?_⟩
      cases x <;> simp [phiIn, phiMid, hk']
  · refine Tms.rlMid (tmp := (v, .own t) :: tmp) (tmp' := tmp) (Tms.rl tmp (fun k x hk => ?_) h0) (by simp) pre (fun k x hk => ?_) h.tm
    · have : ¬ k = tmp.length := by omega
      simp [phiIn, phiMid, this, hk]
    · have h1 : ¬ tmp.length + 1 + k = tmp.length := by omega
      have h2 : ¬ tmp.length + 1 + k < tmp.length := by omega
      have h3 : ¬ tmp.length + 1 + k < tmp.length + 1 := by omega
      have h4 : tmp.length + 1 + k - 1 = tmp.length + k := by omega
      simp [phiIn, phiMid, h1, h2, h3, h4]
end
def ixNd (n : Nat) : D → Option Nat | .int i => ixN n i | _ => none
theorem ixNd_ok {n j : Nat} {d : D} {x : V} {G : Hp} (h : ixNd n d = some j) (r : Rep G d x) : j < n ∧ ∃ i, x = .int i ∧ ixN n i = some j := by
  cases d <;> try (cases h; done)
  rename_i i
  exact ⟨(ixN_seq h).2.1, i, r, h⟩
section
variable {R : Type} {F : Fc} {tmp : Tmp} {s : State} {m : Res R} {K : Rs R} {N : Rn R} {Rt : Rr R} {ta tb te to ti : TE} {Kf : PySem.W.Frag}
theorem rd_take {i : Nat} {ls0 : List (List D)} {Q : VK} {σ : St} {H : Hp} (hs : s[i]? = some (some (.ll (ls0.map T.l)))) (hh : Holds F tmp s σ H) (nf : m ≠ .fail) (eo : EOk F m)
    (h : ∀ x, RD F ((x, .ali i) :: tmp) s ti m (fun tm1 s1 m1 => ∃ (d : D) (ls : List (List D)) (k : Nat → Res R), valS s1 tm1 = some d ∧ s1[i]? = some (some (.ll (ls.map T.l))) ∧ m1 = ob (ixNd ls.length d) k ∧
      ∀ j, ls[j]? = some (ls.getD j []) → ∀ v H1, m = k j → Holds F ((v, .own (.l (ls.getD j []))) :: tmp) (s1.set i (some (.ll ((ls.map T.l).set j (.hole v))))) σ H1 → Q v H1)) : tOp (rIxA Kf) (tVar i) ti σ H Q := by
  obtain ⟨x, ex⟩ : ∃ x, σ[i]? = some (some x) := by
    obtain ⟨G, ω, h1⟩ := hh
    obtain ⟨v, e, _⟩ := h1.sl i _ hs
    exact ⟨v, e⟩
  refine ⟨x, ex, h x σ H _ (by obtain ⟨G, ω, h1⟩ := hh; exact ⟨G, ω, { h1 with tm := ⟨ex, h1.tm⟩ }⟩) nf eo fun tm1 s1 y H1 ⟨d, ls, k, ed, hi, em, hk⟩ h1 => ?_⟩
  obtain ⟨j, ej, em'⟩ := ob_cases (by rw [← em]; exact nf)
  have ey : j < ls.length ∧ ∃ z, y = .int z ∧ ixN ls.length z = some j := by
    obtain ⟨G, ω, h2⟩ := h1
    have r := (h2.repC h2.tm.1 ed).toR h2.gH
    exact ixNd_ok ej r
  obtain ⟨jl, z, rfl, hz⟩ := ey
  have hj : ls[j]? = some (ls.getD j []) := by rw [List.getD_eq_getElem?_getD, List.getElem?_eq_getElem jl]; rfl
  have h3 := h1.pop.pop
  obtain ⟨a, vs, v, e1, ha, hl, hv, h4⟩ := h3.takeOut hi (t := .l (ls.getD j [])) (j := j) (by rw [List.getElem?_map, hj]; rfl)
  rw [ex] at e1; cases e1
  refine .inl ⟨a, vs, z, v, rfl, rfl, .inl (.inl ha), ?_, hk j hj v H1 (by rw [em, em']) h4⟩
  unfold atI
  rw [hl, List.length_map, hz]
  exact hv
/-- x[i].append(e) -/
theorem rd_append2 {i : Nat} {ls0 : List (List D)} (hs : s[i]? = some (some (.ll (ls0.map T.l))))
    (h : ∀ x, RD F ((x, .ali i) :: tmp) s ti m (fun tm1 s1 m1 => ∃ (d : D) (ls : List (List D)) (k : Nat → Res R), valS s1 tm1 = some d ∧ s1[i]? = some (some (.ll (ls.map T.l))) ∧ m1 = ob (ixNd ls.length d) k ∧
      ∀ j v, RD F ((v, .own (.l (ls.getD j []))) :: tmp) (s1.set i (some (.ll ((ls.map T.l).set j (.hole v))))) te (k j) (fun tm2 s2 m2 => ∃ d2 k2, tm2 = .own (.f d2) ∧ s2[i]? = some (some (.ll ((ls.map T.l).set j (.hole v)))) ∧
        m2 = ob (apL (ls.getD j []) d2) k2 ∧ ∀ l', K (.own (.f .non)) (s2.set i (some (.ll ((ls.set j l').map T.l)))) (k2 l')))) :
    RD F tmp s (tBM Kf "list" rAppend (tOp (rIxA Kf) (tVar i) ti) (tCons te tNil)) m K := fun σ H Q hh nf eo q => by
  refine rd_take hs hh nf eo fun x => fun σ' H' Q' hh' nf' eo' q' => h x σ' H' Q' hh' nf' eo' fun tm1 s1 y H1 ⟨d, ls, k, ed, hi, em, hk⟩ h1 => q' tm1 s1 y H1 ⟨d, ls, k, ed, hi, em, fun j hj v H2 em2 h2 => ?_⟩ h1
  have ht : tyV Kf "list" v H2 := by
    obtain ⟨G, ω, h3⟩ := h2
    obtain ⟨a, vs, e, ha, _⟩ := h3.tm.1
    subst e
    exact .inl ⟨rfl, vs, .inl (.inl ha)⟩
  refine ⟨ht, ?_⟩
  have hkj := hk j v
  rw [← em2] at hkj
  refine hkj σ H2 _ h2 nf eo fun tm2 s2 w H3 ⟨d2, k2, e2, hi2, em3, hk2⟩ h3 => ?_
  subst e2
  obtain ⟨l', el, em4⟩ := ob_cases (by rw [← em3]; exact nf)
  unfold apL at el
  split at el
  · cases el
    rename_i hlt
    obtain ⟨a, vs, e, ha, hw⟩ : ∃ a vs, v = .ref a ∧ H3 a = some (.lst vs) ∧ vs.length = (ls.getD j []).length := by
      obtain ⟨G, ω, h5⟩ := h3
      obtain ⟨a, vs, e, ha, hw, z, r⟩ := h5.tm.2.1
      exact ⟨a, vs, e, ha, r.length.symm⟩
    subst e
    obtain ⟨vs', e5, e6, h6⟩ := h3.wrTmp (by rw [sizeLine_eq]; exact hlt)
    rw [ha] at e5; cases e5
    refine ⟨a, vs, w, rfl, rfl, ha, by rw [hw, sizeLine_eq]; exact hlt, ?_⟩
    have hjl : j < ls.length := by
      cases e9 : decide (j < ls.length) with
      | true => exact of_decide_eq_true e9
      | false =>
        rw [List.getElem?_eq_none (by have := of_decide_eq_false e9; omega)] at hj
        cases hj
    have h7 := Holds.putIn [] (j := j) h6 hi2 (by rw [List.getElem?_set_self (by simpa using hjl)])
    rw [List.set_set] at h7
    have h8 : (ls.map T.l).set j (.l (ls.getD j [] ++ [d2])) = (ls.set j (ls.getD j [] ++ [d2])).map T.l := by rw [List.map_set]
    rw [h8] at h7
    exact q _ _ .non _ (by rw [em3, em4]; exact hk2 _) (holds_push (d := .non) h7 fun _ => rfl)
  · cases el
/-- for .. in x[i] -/
theorem ri_el {i : Nat} {ls0 : List (List D)} {K : Ki R} (hs : s[i]? = some (some (.ll (ls0.map T.l))))
    (h : ∀ x, RD F ((x, .ali i) :: tmp) s ti m (fun tm1 s1 m1 => ∃ (d : D) (ls : List (List D)) (k : Nat → Res R), valS s1 tm1 = some d ∧ s1[i]? = some (some (.ll (ls.map T.l))) ∧ m1 = ob (ixNd ls.length d) k ∧
      ∀ j v, K [(v, .own (.l (ls.getD j [])))] (fun s => s[i]? = some (some (.ll ((ls.map T.l).set j (.hole v))))) (fun s => s.set i (some (.ll (ls.map T.l)))) (ls.getD j []) (s1.set i (some (.ll ((ls.map T.l).set j (.hole v))))) (k j))) :
    RI F tmp s m (iList Kf (tOp (rIxA Kf) (tVar i) ti)) K := fun σ H Q hh nf eo q => by
  refine rd_take hs hh nf eo fun x => fun σ' H' Q' hh' nf' eo' q' => h x σ' H' Q' hh' nf' eo' fun tm1 s1 y H1 ⟨d, ls, k, ed, hi, em, hk⟩ h1 => q' tm1 s1 y H1 ⟨d, ls, k, ed, hi, em, fun j hj v H2 em2 h2 => ?_⟩ h1
  have hjl : j < ls.length := (List.getElem?_eq_some_iff.mp hj).1
  have at_ : ∀ (pre : Tmp) s σ H, Holds F (pre ++ ([(v, .own (.l (ls.getD j [])))] ++ tmp)) s σ H → ∃ a vs G ω, v = .ref a ∧ H a = some (.lst vs) ∧ Hd F G ω (pre ++ ([(v, .own (.l (ls.getD j [])))] ++ tmp)) s σ H ∧ Reps G (ls.getD j []) vs ∧ (ls.getD j []).length ≤ sizeLine := fun pre s σ H ⟨G, ω, h⟩ => by
    obtain ⟨a, vs, e, ha, hw, z, r⟩ := Tms.at (tm := .own (.l (ls.getD j []))) (tmp := tmp) pre h.tm
    exact ⟨a, vs, G, ω, e, ha, h, r, z⟩
  obtain ⟨a, vs, G, ω, e1, g, h3, r, z⟩ := at_ [] _ σ H2 h2
  have hkj := hk j v
  rw [← em2] at hkj
  refine ⟨a, e1, ⟨vs, .inl (.inl g)⟩, q _ _ _ _ _ (Itl Kf a) H2 hkj ⟨fun pre s σ H hp h => ?_, z, fun s σ H i hp hh hi => ?_, fun s σ H hp hh => ?_, fun pre s σ H i d y H' hp hh hd hy => ?_⟩ h2⟩
  · have hp' : s[i]? = some (some (.ll ((ls.map T.l).set j (.hole v)))) := hp
    have := Holds.putIn pre (j := j) h hp' (by rw [List.getElem?_set_self (by simpa using hjl)])
    rw [List.set_set] at this
    have e8 : (ls.map T.l).set j (.l (ls.getD j [])) = ls.map T.l := by
      refine List.ext_getElem? fun k => ?_
      rw [List.getElem?_set]
      by_cases hk : j = k
      · subst hk
        rw [if_pos rfl, if_pos (by simpa using hjl), List.getElem?_map, hj]; rfl
      · rw [if_neg hk]
    rw [e8] at this
    exact this
  · obtain ⟨a', vs', G', ω', e2, g2, _, r2, _⟩ := at_ [] s σ H hh
    rw [e1] at e2; cases e2
    have hl : i < vs'.length := by rw [← r2.length]; exact hi
    exact ⟨vs', vs'[i], .inl (.inl g2), by simp [hl]⟩
  · obtain ⟨a', vs', G', ω', e2, g2, _, r2, _⟩ := at_ [] s σ H hh
    rw [e1] at e2; cases e2
    exact ⟨vs', .inl (.inl g2), by rw [r2.length]; exact Nat.le_refl _⟩
  · obtain ⟨a', vs', G', ω', e2, g2, h3, r2, _⟩ := at_ pre s σ H hh
    rw [e1] at e2; cases e2
    obtain ⟨rfl, hy⟩ := hy
    have hy := hy vs' (.inl (.inl g2))
    obtain ⟨w, w1, w2⟩ := r2.get hd
    rw [hy] at w1; cases w1
    exact ⟨G', ω', h3.pushF w2⟩
/-- len of an owned list of owned things -/
theorem rd_len_ll {i : Nat} {ts : List T} (hs : s[i]? = some (some (.ll ts))) (k : K (.own (.f (.int ts.length))) s m) : RD F tmp s (tCB (rLen Kf) (tCons (tVar i) tNil)) m K := fun σ H Q hh nf eo q => by
  have h2 := hh
  obtain ⟨G, ω, h⟩ := hh
  obtain ⟨v, e, a, vs, e2, ha, hw, z, r⟩ := h.sl i _ hs
  subst e2
  exact ⟨_, e, _, _, rfl, .inl ⟨vs, .inl (.inl ha), r.len⟩, q _ _ _ H k (holds_push (d := .int _) h2 fun _ => rfl)⟩
def phiDisp (n : Nat) : Lab → Option Lab
  | 1 :: j :: x => if j < n then some (1 :: j :: x) else some (1 :: n :: (j - n) :: x)
  | l => some l
/-- a display of owned things -/
theorem rd_lstO {t : TA} (h : RA F tmp s m t (fun tms s1 m1 => ∃ ts : List T, tms = ts.map TM.own ∧ ts.length ≤ 1000 ∧ K (.own (.ll ts)) s1 m1)) : RD F tmp s (tLst t) m K := fun σ H Q hh nf eo q =>
  h σ H _ hh nf eo fun tms s1 vs H1 ⟨ts, et, hz, hk⟩ hl h1 => by
    obtain ⟨G, ω, h2⟩ := h1
    obtain ⟨t0, args⟩ := Tms.args vs tms tmp hl h2.tm
    subst et
    have hlen : ts.length = vs.length := by rw [hl]; simp
    have z : ts.length ≤ sizeLine := by rw [sizeLine_eq]; omega
    refine ⟨by rw [← hlen]; exact z, fun p hp => ?_⟩
    have h3 : Hd F G (rl ω (phiDisp tmp.length)) tmp s1 σ H1 := h2.rl _ s1 σ tmp h2.len (fun i u e => by
      obtain ⟨v', e1, e2⟩ := h2.sl i u e
      exact ⟨v', e1, Own.rl e2 fun x => by simp [phiDisp]⟩) (Tms.rl tmp (fun j x hj => by simp [phiDisp, hj]) t0) h2.pn
    refine q _ s1 _ _ hk ⟨G, _, h3.newO hp ⟨p, vs, rfl, upd_same, by simp, z, Owns.of hlen fun j t v a b => ?_⟩⟩
    obtain ⟨w, w1, w2⟩ := args j (.own t) (by rw [List.getElem?_map, a]; rfl)
    rw [b] at w1; cases w1
    rw [Nat.zero_add]
    have hgt : ∀ x, phiDisp tmp.length ([1, tmp.length + j] ++ x) = some (([1, tmp.length] ++ [j]) ++ x) := fun x => by
      have h1 : ¬ tmp.length + j < tmp.length := by omega
      have h2 : tmp.length + j - tmp.length = j := by omega
      simp [phiDisp, h2]
    refine Own.move (Same.refl _) _ _ t v (fun a x e => ?_) w2
    obtain ⟨_, ⟨o, ho⟩, _⟩ := h2.wg a _ e
    have ne := ne_of_none ho hp
    exact ⟨upd_ne ne, by rw [if_neg ne]; exact rl_of e (hgt x)⟩
/-- x.append(owned) -/
theorem rd_appendO {i : Nat} {te : TE} (hs : ∃ ts, s[i]? = some (some (.ll ts))) (h : ∀ x, RD F ((x, .ali i) :: tmp) s te m (fun tm2 s2 m2 => ∃ t ts k, tm2 = .own t ∧ s2[i]? = some (some (.ll ts)) ∧ m2 = (if ts.length < 16777216 then k else .fail) ∧ K (.own (.f .non)) (s2.set i (some (.ll (ts ++ [t])))) k)) :
    RD F tmp s (tBM Kf "list" rAppend (tVar i) (tCons te tNil)) m K := fun σ H Q hh nf eo q => by
  obtain ⟨ts0, hs⟩ := hs
  have hx : ∃ a vs, σ[i]? = some (some (.ref a)) ∧ H a = some (.lst vs) := by
    obtain ⟨G, ω, h1⟩ := hh
    obtain ⟨v, e, a, vs, e2, ha, _⟩ := h1.sl i _ hs
    subst e2
    exact ⟨a, vs, e, ha⟩
  obtain ⟨a, vs, ex, ha⟩ := hx
  refine ⟨.ref a, ex, .inl ⟨rfl, vs, .inl (.inl ha)⟩, h (.ref a) σ H _ (by obtain ⟨G, ω, h1⟩ := hh; exact ⟨G, ω, { h1 with tm := ⟨ex, h1.tm⟩ }⟩) nf eo fun tm2 s2 y H2 ⟨t, ts, k, e2, hi, em, hk⟩ h3 => ?_⟩
  subst e2
  have hlt : ts.length < 16777216 := by
    refine Decidable.byContradiction fun z => ?_
    rw [if_neg z] at em
    exact nf em
  rw [if_pos hlt] at em
  have h4 : Holds F ((y, .own t) :: tmp) s2 σ H2 := Holds.dropMid (ex := [(.ref a, .ali i)]) [(y, .own t)] h3
  obtain ⟨G, ω, h4⟩ := h4
  obtain ⟨v, e1, a', vs', e2, ha', hw, z, r⟩ := h4.sl i _ hi
  subst e2
  rw [ex] at e1; cases e1
  have hil : i < s2.length := (List.getElem?_eq_some_iff.mp hi).1
  refine ⟨a, vs', y, rfl, rfl, ha', by rw [← r.len, sizeLine_eq]; exact hlt, ?_⟩
  have h5 : Hd F G (rl ω (phiIn tmp.length i ts.length)) tmp (s2.set i none) σ H2 := h4.rl _ _ σ tmp (by simp [h4.len]) (fun k u e => by
    by_cases hk : i = k
    · subst hk; rw [List.getElem?_set_self hil] at e; cases e
    · rw [List.getElem?_set_ne hk] at e
      obtain ⟨v', b1, b2⟩ := h4.sl k u e
      have hk' : ¬ k = i := fun z => hk z.symm
      refine ⟨v', b1, Own.rl b2 fun x => ?_⟩
      cases x <;> simp [phiIn, hk']) (Tms.rl tmp (fun j x hj => by
      have : ¬ j = tmp.length := by omega
      simp [phiIn, this]) h4.tm.2) h4.pn
  have hw5 : (rl ω (phiIn tmp.length i ts.length)) a = some [0, i] := rl_of hw rfl
  have r5 : ∀ (j : Nat) t' v', (ts ++ [t])[j]? = some t' → (vs' ++ [y])[j]? = some v' → Own G (upd H2 a (.lst (vs' ++ [y]))) (rl ω (phiIn tmp.length i ts.length)) ([0, i] ++ [0 + j]) t' v' := fun j t' v' a1 a2 => by
    rw [Nat.zero_add]
    have hwr : ∀ {q : Lab} {t v}, pre q [0, i] = false → Own G H2 (rl ω (phiIn tmp.length i ts.length)) q t v → Own G (upd H2 a (.lst (vs' ++ [y]))) (rl ω (phiIn tmp.length i ts.length)) q t v := fun n o => Own.wrO hw5 n o
    refine hwr (by simp [pre]) ?_
    by_cases hj : j < ts.length
    · rw [List.getElem?_append_left hj] at a1
      rw [List.getElem?_append_left (by rw [← r.len]; exact hj)] at a2
      obtain ⟨w, b1, b2⟩ := r.get a1
      rw [a2] at b1; cases b1
      rw [Nat.zero_add] at b2
      have hj' : ¬ j = ts.length := by omega
      exact Own.rl b2 fun x => by simp [phiIn, hj']
    · rw [List.getElem?_append_right (by omega)] at a1
      rw [List.getElem?_append_right (by rw [← r.len]; omega)] at a2
      have hj2 : j = ts.length := by
        have := (List.getElem?_eq_some_iff.mp a1).1
        simp at this
        omega
      subst hj2
      simp at a1
      rw [← r.len] at a2
      simp at a2
      subst a1; subst a2
      exact Own.rl h4.tm.1 fun x => by simp [phiIn]
  have h6 : Hd F G (rl ω (phiIn tmp.length i ts.length)) tmp (s2.set i (some (.ll (ts ++ [t])))) σ (upd H2 a (.lst (vs' ++ [y]))) := h5.wr hw5 _ (by simp) (fun k u e => by
    by_cases hk : i = k
    · subst hk
      rw [List.getElem?_set_self hil] at e
      cases e
      exact ⟨_, ex, a, vs' ++ [y], rfl, upd_same, hw5, by rw [sizeLine_eq]; simp; omega, Owns.of (by simp [r.len]) r5⟩
    · rw [List.getElem?_set_ne hk] at e
      obtain ⟨v', b1, b2⟩ := h5.sl k u (by rw [List.getElem?_set_ne hk]; exact e)
      exact ⟨v', b1, Own.wrO hw5 (by simp [pre]; exact fun z => hk z.symm) b2⟩) (Tms.wrO hw5 tmp (fun j hj => by simp [pre]) h5.tm)
  exact q _ _ .non _ (by rw [em]; exact hk) (holds_push (d := .non) ⟨G, _, h6⟩ fun _ => rfl)
end
end VL

namespace VL
open PySem L2

/-! what the printed walks use besides -/
def asLst : D → Option (List D) | .lst l => some l | _ => none
def asStr : D → Option (List Nat) | .str x => some x | _ => none
def asDc : D → Option (Bool × List (D × D)) | .dct k l => some (k, l) | _ => none
def un2 : D → Option (D × D) | .tup [a, b] => some (a, b) | _ => none
def un3 : D → Option (D × D × D) | .tup [a, b, c] => some (a, b, c) | _ => none
def un4 : D → Option (D × D × D × D) | .tup [a, b, c, d] => some (a, b, c, d) | _ => none
theorem asLst_eq {d : D} {l : List D} (h : asLst d = some l) : d = .lst l := by cases d <;> first | (cases h; rfl) | cases h
theorem asStr_eq {d : D} {l : List Nat} (h : asStr d = some l) : d = .str l := by cases d <;> first | (cases h; rfl) | cases h
theorem asDc_eq {d : D} {p : Bool × List (D × D)} (h : asDc d = some p) : d = .dct p.1 p.2 := by cases d <;> first | (cases h; rfl) | cases h
theorem un2_eq {d : D} {p : D × D} (h : un2 d = some p) : d = .tup [p.1, p.2] := by
  unfold un2 at h; split at h <;> cases h; rfl
theorem un3_eq {d : D} {p : D × D × D} (h : un3 d = some p) : d = .tup [p.1, p.2.1, p.2.2] := by
  unfold un3 at h; split at h <;> cases h; rfl
theorem un4_eq {d : D} {p : D × D × D × D} (h : un4 d = some p) : d = .tup [p.1, p.2.1, p.2.2.1, p.2.2.2] := by
  unfold un4 at h; split at h <;> cases h; rfl
section
variable {R : Type} {F : Fc} {tmp : Tmp} {s : State} {m : Res R} {K : Rs R} {N : Rn R} {Rt : Rr R} {ta tb te to ti td ty : TE} {Kf : PySem.W.Frag}
theorem rs_join {Z : Type} {t : TS} (S : Z → State) (ma : Res Z) (k : Z → Res R) (e : m = rb ma k) (h : RS F tmp s ma t (fun s' m' => ∃ z, m' = .ok z ∧ Sub s' (S z)) (fun _ _ _ => False)) (hn : ∀ z, N (S z) (k z)) : RS F tmp s m t N Rt := fun σ H D hh nf eo nx rt => by
  subst e
  have nf' : ma ≠ .fail := fun z => nf (by rw [z]; rfl)
  refine h σ H D hh nf' (eo.of fun e he => by rw [he]; rfl) (fun s' σ' H' ⟨z, ez, sb⟩ h1 => ?_) fun t s' v σ' H' hk h1 => hk.elim
  refine nx (S z) σ' H' ?_ (h1.sub sb)
  rw [ez]; exact hn z
theorem rs_joinF {Z R' : Type} {t : TS} (S : Z → State) (ma : Res (Fl Z R')) (k : Fl Z R' → Res R) (e : m = rb ma k) (h : RS F tmp s ma t (fun s' m' => ∃ z, m' = .ok (.nx z) ∧ Sub s' (S z)) (fun t s' m' => ∃ r, m' = .ok (.rt r) ∧ Rt t s' (k (.rt r)))) (hn : ∀ z, N (S z) (k (.nx z))) : RS F tmp s m t N Rt := fun σ H D hh nf eo nx rt => by
  subst e
  have nf' : ma ≠ .fail := fun z => nf (by rw [z]; rfl)
  refine h σ H D hh nf' (eo.of fun e he => by rw [he]; rfl) (fun s' σ' H' ⟨z, ez, sb⟩ h1 => ?_) fun t s' v σ' H' ⟨r, er, hk⟩ h1 => ?_
  · refine nx (S z) σ' H' ?_ (h1.sub sb)
    rw [ez]; exact hn z
  · refine rt t s' v σ' H' ?_ h1
    rw [er]; exact hk
theorem rs_asgG {te : TE} {g : TG} (is : List Nat) (h : RD F tmp s te m (fun tm s1 m1 => ∃ d, tm = .own (.f d) ∧ RG F tmp s1 m1 is g d N)) : RS F tmp s m (tAsg te g) N Rt := fun σ H De hh nf eo nx rt =>
  h σ H _ hh nf eo fun tm s1 v H1 ⟨d, e, hg⟩ h1 => by
    subst e
    exact hg σ H1 v _ h1 nf eo fun s' σ' H' hk h2 _ _ => nx s' σ' H' hk h2
theorem rg_un2 {g1 g2 : TG} {is1 is2 : List Nat} {d : D} {K : State → Res R → Prop} (h : ∃ k, m = ob (un2 d) k ∧ ∀ a b, ∀ y, RG F ((y, .own (.f b)) :: tmp) s (k (a, b)) is1 g1 a (fun s1 m1 => RG F tmp s1 m1 is2 g2 b K)) : RG F tmp s m (is1 ++ is2) (gTup Kf 2 (gCons g1 (gCons g2 gNil))) d K := fun σ H v Q hh nf eo q => by
  obtain ⟨k, em, h⟩ := h
  obtain ⟨p, ep, em'⟩ := ob_cases (by rw [← em]; exact nf)
  have e := un2_eq ep
  exact rg_tup2 ⟨p.1, p.2, e, fun y => by have := h p.1 p.2 y; rw [em, em']; exact this⟩ σ H v Q hh nf eo q
theorem rg_many {gs : TGs} {n : Nat} {d : D} {is : List Nat} {K : State → Res R → Prop} {ds : List D} (e : d = .tup ds) (hn : ds.length = n)
    (h : ∀ xs, xs.length = n → ∀ σ H Q, Holds F (xs.zip (ds.map fun d => TM.own (.f d)) ++ tmp) s σ H → m ≠ .fail → EOk F m → (∀ s' σ' H', K s' m → Holds F tmp s' σ' H' → (∀ j, j ∉ is → σ'[j]? = σ[j]?) → σ'.length = σ.length → Q σ' H') → gs xs σ H Q) : RG F tmp s m is (gTup Kf n gs) d K := fun σ H v Q hh nf eo q => by
  subst e
  obtain ⟨G, ω, h0⟩ := hh
  obtain ⟨p, vs, e1, g, z, r⟩ := h0.tm.1
  refine ⟨p, vs, e1, .inl (.inl (h0.gH _ _ g)), by rw [← r.length]; exact hn, h vs (by rw [← r.length]; exact hn) σ H Q ⟨G, ω, ?_⟩ nf eo q⟩
  have hp := h0.pop
  have key : ∀ (ds : List D) (vs : List V), Reps G ds vs → Hd F G ω (vs.zip (ds.map fun d => TM.own (.f d)) ++ tmp) s σ H := by
    intro ds
    induction ds with
    | nil => intro vs h; cases (show vs = [] from h); exact hp
    | cons d r ih =>
      intro vs ⟨v, q, e, h, k⟩
      subst e
      exact (ih q k).pushF h
  exact key ds vs r
/-- the targets of an unpacking, one after another -/
def RGs (F : Fc) (tmp : Tmp) (s : State) (m : Res R) (is : List Nat) (gs : TGs) (ds : List D) (K : State → Res R → Prop) : Prop :=
  ∀ xs, xs.length = ds.length → ∀ σ H Q, Holds F (xs.zip (ds.map fun d => TM.own (.f d)) ++ tmp) s σ H → m ≠ .fail → EOk F m → (∀ s' σ' H', K s' m → Holds F tmp s' σ' H' → (∀ j, j ∉ is → σ'[j]? = σ[j]?) → σ'.length = σ.length → Q σ' H') → gs xs σ H Q
theorem rgs_nil {K : State → Res R → Prop} (k : K s m) : RGs F tmp s m [] gNil [] K := fun xs hl σ H Q hh nf eo q => by
  cases xs with
  | nil => exact ⟨rfl, q s σ H k hh (fun _ _ => rfl) rfl⟩
  | cons _ _ => simp at hl
theorem rgs_cons {i : Nat} {is : List Nat} {gs : TGs} {d : D} {ds : List D} {K : State → Res R → Prop} (hi : i < s.length) (na : noAli i tmp = true) (hp : F.pv i = none)
    (h : RGs F tmp (s.set i (some (.f d))) m is gs ds K) : RGs F tmp s m (i :: is) (gCons (gName i) gs) (d :: ds) K := fun xs hl σ H Q hh nf eo q => by
  cases xs with
  | nil => simp at hl
  | cons x r =>
    refine ⟨x, r, rfl, ?_⟩
    have na2 : ∀ (xs : List V) (ds : List D), noAli i (xs.zip (ds.map fun d => TM.own (.f d)) ++ tmp) = true := by
      intro xs
      induction xs with
      | nil => intro ds; exact na
      | cons y q ih =>
        intro ds
        cases ds with
        | nil => exact na
        | cons d' r' => exact ih r'
    have h1 : Holds F ((x, .own (.f d)) :: (r.zip (ds.map fun d => TM.own (.f d)) ++ tmp)) s σ H := hh
    have h2 := h1.store hi (na2 r ds) hp
    refine h r (by simpa using hl) (σ.set i (some x)) H Q h2 nf eo fun s' σ' H' hk h3 hj hl2 => q s' σ' H' hk h3 (fun j hj2 => ?_) (by rw [hl2]; simp)
    have h4 : j ∉ is := fun z => hj2 (List.mem_cons_of_mem _ z)
    have h5 : i ≠ j := fun z => hj2 (by rw [z]; exact List.mem_cons_self)
    rw [hj j h4, List.getElem?_set_ne h5]
theorem rg_un {gs : TGs} {n : Nat} {d : D} {is : List Nat} {K : State → Res R → Prop} {ds : List D} (e : d = .tup ds) (hn : ds.length = n) (h : RGs F tmp s m is gs ds K) : RG F tmp s m is (gTup Kf n gs) d K :=
  rg_many e hn fun xs hx => h xs (hx.trans hn.symm)
theorem rg_n2 {gs : TGs} {d : D} {is : List Nat} {K : State → Res R → Prop} (h : ∃ k, m = ob (un2 d) k ∧ ∀ p : D × D, RGs F tmp s (k p) is gs [p.1, p.2] K) : RG F tmp s m is (gTup Kf 2 gs) d K := fun σ H v Q hh nf eo q => by
  obtain ⟨k, em, h⟩ := h
  obtain ⟨p, ep, em'⟩ := ob_cases (by rw [← em]; exact nf)
  exact rg_un (un2_eq ep) rfl (by have := h p; rw [em, em']; exact this) σ H v Q hh nf eo q
theorem rg_n3 {gs : TGs} {d : D} {is : List Nat} {K : State → Res R → Prop} (h : ∃ k, m = ob (un3 d) k ∧ ∀ p : D × D × D, RGs F tmp s (k p) is gs [p.1, p.2.1, p.2.2] K) : RG F tmp s m is (gTup Kf 3 gs) d K := fun σ H v Q hh nf eo q => by
  obtain ⟨k, em, h⟩ := h
  obtain ⟨p, ep, em'⟩ := ob_cases (by rw [← em]; exact nf)
  exact rg_un (un3_eq ep) rfl (by have := h p; rw [em, em']; exact this) σ H v Q hh nf eo q
theorem rg_n4 {gs : TGs} {d : D} {is : List Nat} {K : State → Res R → Prop} (h : ∃ k, m = ob (un4 d) k ∧ ∀ p : D × D × D × D, RGs F tmp s (k p) is gs [p.1, p.2.1, p.2.2.1, p.2.2.2] K) : RG F tmp s m is (gTup Kf 4 gs) d K := fun σ H v Q hh nf eo q => by
  obtain ⟨k, em, h⟩ := h
  obtain ⟨p, ep, em'⟩ := ob_cases (by rw [← em]; exact nf)
  exact rg_un (un4_eq ep) rfl (by have := h p; rw [em, em']; exact this) σ H v Q hh nf eo q
/-- a list of a value that was not known to be one -/
theorem ri_lst {K : Ki R} (h : RD F tmp s ta m (fun tm s1 m1 => ∃ d k, valS s1 tm = some d ∧ m1 = ob (asLst d) k ∧ ∀ ds v, K [(v, tm)] (fun s => valS s tm = valS s1 tm) id ds s1 (k ds))) : RI F tmp s m (iList Kf ta) K := fun σ H Q hh nf eo q => by
  refine ri_list (fun σ H Q' hh' nf' eo' q' => h σ H Q' hh' nf' eo' fun tm s1 v H1 ⟨d, k, ea, em, hk⟩ h1 => q' tm s1 v H1 ?_ h1) σ H Q hh nf eo q
  obtain ⟨ds, ed, em'⟩ := ob_cases (by rw [← em]; exact nf)
  rw [asLst_eq ed] at ea
  exact ⟨ds, ea, fun v => by have := hk ds v; rw [em, em']; exact this⟩
theorem ri_enumL {K : Ki R} (h : RD F tmp s ta m (fun tm s1 m1 => ∃ d k, valS s1 tm = some d ∧ m1 = ob (asLst d) k ∧ ∀ ds v, K [(v, tm)] (fun s => valS s tm = valS s1 tm) id (enumD 0 ds) s1 (k ds))) : RI F tmp s m (iEnum Kf (tCons ta tNil)) K := fun σ H Q hh nf eo q => by
  refine ri_enum (fun σ H Q' hh' nf' eo' q' => h σ H Q' hh' nf' eo' fun tm s1 v H1 ⟨d, k, ea, em, hk⟩ h1 => q' tm s1 v H1 ?_ h1) σ H Q hh nf eo q
  obtain ⟨ds, ed, em'⟩ := ob_cases (by rw [← em]; exact nf)
  rw [asLst_eq ed] at ea
  exact ⟨ds, ea, fun v => by have := hk ds v; rw [em, em']; exact this⟩
theorem ri_zipL {K : Ki R} (h : RD F tmp s ta m (fun tm1 s1 m1 => ∀ x, RD F ((x, tm1) :: tmp) s1 tb m1 (fun tm2 s2 m2 => ∃ (a b : D) (k : List D → List D → Res R), valS s2 tm1 = some a ∧ valS s2 tm2 = some b ∧ m2 = ob (asLst a) (fun da => ob (asLst b) (fun db => k da db)) ∧ ∀ da db y, K [(y, tm2), (x, tm1)] (fun s => valS s tm1 = valS s2 tm1 ∧ valS s tm2 = valS s2 tm2) id (zipD da db) s2 (k da db)))) : RI F tmp s m (iZip Kf (tCons ta (tCons tb tNil))) K := fun σ H Q hh nf eo q => by
  refine ri_zip (fun σ H Q' hh' nf' eo' q' => h σ H Q' hh' nf' eo' fun tm1 s1 v H1 h2 h1 => q' tm1 s1 v H1 (fun x σ2 H2 Q2 hh2 nf2 eo2 q2 => h2 x σ2 H2 Q2 hh2 nf2 eo2 fun tm2 s2 w H3 ⟨a, b, k, ea, eb, em, hk⟩ h3 => q2 tm2 s2 w H3 ?_ h3) h1) σ H Q hh nf eo q
  obtain ⟨da, eda, em'⟩ := ob_cases (by rw [← em]; exact nf)
  obtain ⟨db, edb, em''⟩ := ob_cases (by rw [← em', ← em]; exact nf)
  rw [asLst_eq eda] at ea
  rw [asLst_eq edb] at eb
  exact ⟨da, db, ea, eb, fun y => by have := hk da db y; rw [em, em', em'']; exact this⟩
def Fl.on {Z R Q : Type} (o : Fl Z R) (a : Z → Res Q) (b : R → Res Q) : Res Q := match o with | .nx z => a z | .rt r => b r
theorem rs_at {t : TS} (s' : State) (e : s = s') (h : RS F tmp s' m t N Rt) : RS F tmp s m t N Rt := by subst e; exact h
theorem all1 {P : Nat → Prop} {a : Nat} (h : P a) : ∀ i ∈ [a], P i := fun i hi => by
  rw [List.mem_singleton] at hi; subst hi; exact h
theorem all2 {P : Nat → Prop} {a b : Nat} (h : P a) (k : P b) : ∀ i ∈ [a, b], P i := fun i hi => by
  rcases List.mem_cons.mp hi with e | e
  · subst e; exact h
  · rw [List.mem_singleton] at e; subst e; exact k
theorem all3 {P : Nat → Prop} {a b c : Nat} (h : P a) (k : P b) (l : P c) : ∀ i ∈ [a, b, c], P i := fun i hi => by
  rcases List.mem_cons.mp hi with e | e
  · subst e; exact h
  · exact all2 k l i e
def lcBodyR (F : Fc) (tmp : Tmp) (S : State) (is : List Nat) (g : TG) (tt : TT) (te : TE) (m : Res (Option D)) (d : D) : Prop :=
  RG F tmp S m is g d (fun s2 m2 => RT F tmp s2 m2 tt (fun b s3 m3 => ∃ ma mb, m3 = (if b = true then ma else mb) ∧
    (b = true → RD F tmp s3 te ma (fun tm s4 m4 => ∃ y, tm = .own (.f y) ∧ m4 = .ok (some y) ∧ Sub s4 S)) ∧ (b = false → mb = .ok none ∧ Sub s3 S)))
theorem rd_sub {R' : Type} {F : Fc} {tmp : Tmp} {s : State} {te : TE} {mr : Res R'} {mu : Res (R' × Unit)} (em : mu = rb mr fun o => .ok (o, ())) {K1 : TM → State → Res R' → Prop} {K2 : TM → State → Res (R' × Unit) → Prop} (h : RD F tmp s te mr K1) (hk : ∀ tm s', K1 tm s' mr → K2 tm s' mu) : RD F tmp s te mu K2 := fun σ H Q hh nf eo q =>
  h σ H Q hh (fun z => nf (by rw [em, z]; rfl)) (eo.of fun e he => by rw [em, he]; rfl) fun tm s' v H' k h1 => q tm s' v H' (hk tm s' k) h1
theorem rd_lcR {wi : TI} {g : TG} {tt : TT} {vs : List Nat} (is : List Nat) (hv : ∀ i ∈ is, i ∈ vs) (hp : ∀ i ∈ vs, F.pv i = none)
    (h : RI F tmp s m wi (fun ex P pb ds s1 m1 => ∃ (S : State) (f : D → Res (Option D)) (k : List D → Res R), m1 = rb (fmR ds f) k ∧ Sub s1 S ∧ P S ∧ (∀ i ∈ vs, S[i]? = some none) ∧ noAlis vs (ex ++ tmp) = true ∧
      (∀ d lv acc, lcBodyR F ((lv, .own (.l acc)) :: (ex ++ tmp)) S is g tt te (f d) d) ∧ ∀ ys, K (.own (.l ys)) (pb S) (k ys))) : RD F tmp s (tLc wi g tt te vs) m K :=
  rd_lc (Z := Unit) is hv hp fun σ H Q hh nf eo q => h σ H Q hh nf eo fun ex P pb ds s1 J H1 ⟨S, f, k, em, sb, hP, hS, na, body, fin⟩ => q ex P pb ds s1 J H1 ⟨fun _ => S, (), fun _ d => rb (f d) fun o => .ok (o, ()), fun p => k p.1, by
      rw [fmR_fmS, em]
      cases fmR ds f <;> rfl, sb, fun _ => hP, fun _ => hS, na, fun z d lv acc => by
      have b := body d lv acc
      intro σ2 H2 v2 Q2 hh2 nf2 eo2 q2
      have nf3 : f d ≠ .fail := fun z => nf2 (by show rb (f d) _ = _; rw [z]; rfl)
      have eo3 : EOk F (f d) := eo2.of fun e he => by show rb (f d) _ = _; rw [he]; rfl
      refine b σ2 H2 v2 Q2 hh2 nf3 eo3 fun s3 σ3 H3 hk hh3 hj hl => q2 s3 σ3 H3 ?_ hh3 hj hl
      intro σ4 H4 Q4 hh4 nf4 eo4 q4
      refine hk σ4 H4 Q4 hh4 nf3 eo3 fun b s5 H5 ⟨ma, mb, eb, hT, hF⟩ hh5 => q4 b s5 H5 ⟨rb ma fun o => .ok (o, ()), rb mb fun o => .ok (o, ()), ?_, fun hb => ?_, fun hb => ?_⟩ hh5
      · show rb (f d) _ = _
        rw [eb]; cases b <;> rfl
      · refine rd_sub rfl (hT hb) fun tm s6 ⟨y, e1, e2, e3⟩ => ⟨y, (), e1, by rw [e2]; rfl, e3⟩
      · obtain ⟨e1, e2⟩ := hF hb
        exact ⟨(), by rw [e1]; rfl, e2⟩, fun p => fin p.1⟩
theorem rd_idx (h : RD F tmp s to m (fun tm1 s1 m1 => ∃ d k, valS s1 tm1 = some d ∧ m1 = ob (asLst d) k ∧ ∀ l0 x, RD F ((x, tm1) :: tmp) s1 te (k l0) (fun tm2 s2 m2 => ∃ a b k, valS s2 tm1 = some a ∧ valS s2 tm2 = some b ∧ m2 = ob (indexD a b) k ∧ ∀ c, K (.own (.f c)) s2 (k c)))) :
    RD F tmp s (tBM Kf "list" (rIndex Kf) to (tCons te tNil)) m K := rd_index fun σ H Q hh nf eo q => h σ H Q hh nf eo fun tm s1 v H1 ⟨d, k, ea, em, hk⟩ h1 => q tm s1 v H1 (by
      obtain ⟨ds, ed, em'⟩ := ob_cases (by rw [← em]; exact nf)
      rw [asLst_eq ed] at ea
      exact ⟨ds, ea, fun x => by have := hk ds x; rw [em, em']; exact this⟩) h1
theorem rd_get1 (h : RD F tmp s td m (fun tm1 s1 m1 => ∃ d k, valS s1 tm1 = some d ∧ m1 = ob (asDc d) k ∧ ∀ p x, RD F ((x, tm1) :: tmp) s1 ty (k p) (fun tm2 s2 m2 => ∃ a b k, valS s2 tm1 = some a ∧ valS s2 tm2 = some b ∧ m2 = ob (dget1D a b) k ∧ ∀ c, K (.own (.f c)) s2 (k c)))) : RD F tmp s (tDGet1 td ty) m K :=
  rd_dget1 fun σ H Q hh nf eo q => h σ H Q hh nf eo fun tm s1 v H1 ⟨d, k, ea, em, hk⟩ h1 => q tm s1 v H1 (by
      obtain ⟨p, ed, em'⟩ := ob_cases (by rw [← em]; exact nf)
      rw [asDc_eq ed] at ea
      exact ⟨⟨p.1, p.2, ea⟩, fun x => by have := hk p x; rw [em, em']; exact this⟩) h1
theorem rd_jn (h : RD F tmp s to m (fun tm1 s1 m1 => ∃ d k, valS s1 tm1 = some d ∧ m1 = ob (asStr d) k ∧ ∀ l0 x, RD F ((x, tm1) :: tmp) s1 te (k l0) (fun tm2 s2 m2 => ∃ a b k, valS s2 tm1 = some a ∧ valS s2 tm2 = some b ∧ m2 = ob (joinD a b) k ∧ ∀ c, K (.own (.f c)) s2 (k c)))) :
    RD F tmp s (tM1 (fun x xs H Q => ∃ a p ys, x = V.str a ∧ xs = [V.ref p] ∧ (SqL Kf H p (List.map V.str ys) ∨ SqT Kf H p (List.map V.str ys)) ∧ (List.map (fun x : Str => x.length) ys).sum + ys.length * a.length ≤ 16777216 ∧ Q (V.str (Txt.join a ys)) H) to te) m K :=
  rd_join fun σ H Q hh nf eo q => h σ H Q hh nf eo fun tm s1 v H1 ⟨d, k, ea, em, hk⟩ h1 => q tm s1 v H1 (by
      obtain ⟨p, ed, em'⟩ := ob_cases (by rw [← em]; exact nf)
      rw [asStr_eq ed] at ea
      exact ⟨⟨p, ea⟩, fun x => by have := hk p x; rw [em, em']; exact this⟩) h1
/-- x += e, whole numbers -/
theorem rs_aug {i : Nat} {d0 : D} {te : TE} (hs : s[i]? = some (some (.f d0))) (na : noAli i tmp = true) (hp : F.pv i = none) (h : RD F tmp s te m (fun tm s1 m1 => ∃ d k, valS s1 tm = some d ∧ s1.length = s.length ∧ m1 = ob (match d0, d with | .int a, .int b => some (D.int (a + b)) | _, _ => none) k ∧ ∀ c, N (s1.set i (some (.f c))) (k c))) :
    RS F tmp s m (tAug i te (ipI fun i j => i + j)) N Rt := fun σ H De hh nf eo nx rt => by
  have h0 := hh
  obtain ⟨G, ω, h1⟩ := h0
  obtain ⟨v, e, o⟩ := h1.sl i _ hs
  have hil : i < s.length := (List.getElem?_eq_some_iff.mp hs).1
  refine ⟨v, e, h σ H _ hh nf eo fun tm s1 y H1 ⟨d, k, ea, hl, em, hk⟩ h2 => ?_⟩
  obtain ⟨c, ec, em'⟩ := ob_cases (by rw [← em]; exact nf)
  cases d0 <;> cases d <;> try (cases ec; done)
  cases ec
  have h3 := h2
  obtain ⟨G2, ω2, h2⟩ := h2
  have ry := h2.repC h2.tm.1 ea
  refine ⟨_, _, o, ry, nx _ _ _ (by rw [em, em']; exact hk _) ((holds_push (d := .int _) h3.pop fun _ => rfl).store (by rw [hl]; exact hil) na hp)⟩
/-- one pair written -/
theorem rd_disp1 {tk tv : TE} (h : ∀ p, RD F ((p, .own (.dc false [])) :: tmp) s tk m (fun tm1 s1 m1 => ∀ x, RD F ((x, tm1) :: (p, .own (.dc false [])) :: tmp) s1 tv m1 (fun tm2 s2 m2 => ∃ dk dv k, tm1 = .own (.f dk) ∧ tm2 = .own (.f dv) ∧ m2 = (if (keyK dk).isSome = true then k else .fail) ∧ K (.own (.dc false [(dk, dv)])) s2 k))) : RD F tmp s (tDisp [(tk, tv)]) m K := fun σ H Q hh nf eo q => fun p np => by
  have hn : Holds F ((.ref p, .own (.dc false [])) :: tmp) s σ (upd H p (.dK [])) := by
    obtain ⟨G, ω, h⟩ := hh
    exact ⟨G, _, h.newO np ⟨p, [], rfl, by simp, upd_same, rfl⟩⟩
  refine h (.ref p) σ _ _ hn nf eo fun tm1 s1 x H1 h2 h1 => h2 x σ H1 _ h1 nf eo fun tm2 s2 y H2 ⟨dk, dv, k, e1, e2, em, hk⟩ h3 => ?_
  subst e1; subst e2
  have hok : (keyK dk).isSome = true := by
    refine Decidable.byContradiction fun z => ?_
    rw [if_neg z] at em
    exact nf em
  rw [if_pos hok] at em
  obtain ⟨kk, hkk⟩ := Option.isSome_iff_exists.mp hok
  obtain ⟨G, ω, h4⟩ := h3
  have ry := h4.tm.1
  have rx := h4.tm.2.1
  obtain ⟨a, kvs, e3, hw, ha, hr⟩ := h4.tm.2.2.1
  cases e3
  cases (show kvs = [] from hr)
  have own : Own G (upd H2 p (.dK (mergeK [] [(kk, y)]))) ω [1, tmp.length] (.dc false [(dk, dv)]) (.ref p) := ⟨p, mergeK [] [(kk, y)], rfl, hw, upd_same, kk, y, [], rfl, keyK_kD hkk, ry, rfl⟩
  refine ⟨ha, [(kk, y)], by rw [show x = kV kk from rep_key hkk (Rep.mono h4.gH _ _ rx)]; rfl, by show 1 ≤ 15; omega, ?_⟩
  refine q _ s2 _ _ (by rw [em]; exact hk) ⟨G, ω, Hd.wr (tmp' := (.ref p, .own (.dc false [(dk, dv)])) :: tmp) h4.pop.pop.pop hw _ rfl (fun j u e => ?_) ⟨own, Tms.wrO hw tmp (fun j hj => ?_) h4.tm.2.2.2⟩⟩
  · obtain ⟨v', b1, b2⟩ := h4.sl j u e
    exact ⟨v', b1, Own.wrO hw (by simp [pre]) b2⟩
  · have : ¬ j = tmp.length := by omega
    simp [pre, this]
end
end VL

namespace VL
open PySem L2
def isnD (a b : D) : Option Bool := match b with | .non => isNoneD a | _ => none
def nnD (a b : D) : Option Bool := match b with | .non => (isNoneD a).map not | _ => none
theorem o_isn : Op2B (fun x y H Q => y = .non ∧ Q (.bl (decide (x = .non))) H) isnD := o_isN
theorem o_nn : Op2B (fun x y H Q => y = .non ∧ Q (.bl (!decide (x = .non))) H) nnD := o_notN
def augD (a b : D) : Option D := match a, b with | .int a, .int b => some (D.int (a + b)) | _, _ => none
section
variable {R : Type} {F : Fc} {tmp : Tmp} {s : State} {m : Res R} {K : Rs R} {N : Rn R} {Rt : Rr R} {ta tb te to ti td ty : TE} {Kf : PySem.W.Frag}
theorem rs_augD {i : Nat} {d0 : D} {te : TE} (hs : s[i]? = some (some (.f d0))) (na : noAli i tmp = true) (hp : F.pv i = none) (h : RD F tmp s te m (fun tm s1 m1 => ∃ d k, valS s1 tm = some d ∧ s1.length = s.length ∧ m1 = ob (augD d0 d) k ∧ ∀ c, N (s1.set i (some (.f c))) (k c))) :
    RS F tmp s m (tAug i te (ipI fun i j => i + j)) N Rt := rs_aug hs na hp h
theorem rd_lenN {i n : Nat} {ts : List T} (hs : s[i]? = some (some (.ll ts))) (e : ts.length = n) (k : K (.own (.f (.int n))) s m) : RD F tmp s (tCB (rLen Kf) (tCons (tVar i) tNil)) m K := rd_len_ll hs (e ▸ k)
theorem mapTl {ls : List (List D)} {x : List D} : ls.map T.l ++ [.l x] = (ls ++ [x]).map T.l := by simp
end
def chk (t : T) (o : List (Option T)) : Bool := t.fl && o.all fun x => match x with | some u => u.fl | none => true
theorem chk_ok {t : T} {o : List (Option T)} (h : chk t o = true) : t.fl = true ∧ ∀ (j : Nat) u, o[j]? = some (some u) → u.fl = true := by
  simp only [chk, Bool.and_eq_true, List.all_eq_true] at h
  refine ⟨h.1, fun j u e => ?_⟩
  exact h.2 (some u) (List.mem_of_getElem? e)
theorem rd_callC {A R R' : Type} {ec : Nat → Addr} {ea : A → List T} {mir : A → Res R'} {er : R' → T} {eo : R' → List (Option T)} {F : Fc} {tmp : Tmp} {s : State} {m : Res R} {K : Rs R} {t : TA} {E : XK} (bs : List Nat) (hec : F.ec = ec) (hE : F.E = E)
    (h : RA F tmp s m t (fun tms s1 m1 => ∃ (a : A) (k : R' → Res R) (mk : List TM), m1 = rb (mir a) (fun r => if chk (er r) (eo r) = true then k r else .fail) ∧ argOk s1 bs tms mk (ea a) ∧ aliNd mk = true ∧ ∀ r, K (.own (er r)) (putOuts s1 mk (eo r)) (k r))) :
    RD F tmp s (tCall (spOf ec ea mir er eo) [] E t) m K :=
  rd_callB bs hec hE fun σ H Q hh nf eo' q => h σ H Q hh nf eo' fun tms s' vs H' ⟨a, k, mk, e1, e2, e3, hk⟩ => q tms s' vs H' ⟨a, _, mk, e1, e2, e3, fun r hn => by
    by_cases c : chk (er r) (eo r) = true
    · simp only [if_pos c]
      exact ⟨(chk_ok c).1, (chk_ok c).2, hk r⟩
    · exact absurd (if_neg c) hn⟩
theorem hu_1 {k : Nat} {A : Around} (r : Room k A) : A.units + 1 < cLine := by have := r.un; omega
theorem hu_64 {k : Nat} {A : Around} (r : Room k A) : A.units + 64 < cLine := by have := r.un; omega
def FU : Nat := 1000000
/-! rules with the written part named -/
section
variable {X : Cx} {Kf : PySem.W.Frag}
theorem ix_anyK (hK : X.K = Kf) : IxR X (rIxA Kf) := hK ▸ ix_any
theorem sl_listK (hK : X.K = Kf) : SlR X (rSlL Kf) := hK ▸ sl_list
theorem mt_indexK (hK : X.K = Kf) : MtR X "list.index" (rIndex Kf) := hK ▸ mt_index
theorem op_inK (hK : X.K = Kf) : OpR X (compareOp .In) (rInA Kf) := hK ▸ op_inA
theorem op_notInK (hK : X.K = Kf) : OpR X (compareOp .NotIn) (rNotInA Kf) := hK ▸ op_notInA
theorem call_lenK (hK : X.K = Kf) : CallR X (.builtin "len") (rLen Kf) := by subst hK; exact call_len
theorem call_listK (hK : X.K = Kf) : CallR X (.type "list") (rList Kf) := by subst hK; exact call_list_of
theorem call_isiK' (hK : X.K = Kf) : CallR X (.builtin "isinstance") (rIsi Kf) := by subst hK; exact call_isi
theorem pi_listK {tg l : Expr} {tl : TE} (hK : X.K = Kf) (hl : PE X l tl) : PI X tg l (iList Kf tl) := hK ▸ pi_list hl
theorem pi_enumK {e : Expr} {ta : TA} {p pos tpos : Pos} {elts : List Expr} {kk : Nat} (hK : X.K = Kf) (hg : Gl X "enumerate") (hm : X.mg "enumerate" = none) (ha : PA X [e] ta) (hs : starEach [e] X.env = [(false, eval e X.env)] := by rfl) :
    PI X (.Tuple elts kk tpos) (.Call (.Name "enumerate" p) [e] [] pos) (iEnum Kf ta) := hK ▸ pi_enum hg hm ha hs
theorem pi_zipK {e e2 : Expr} {ta : TA} {p pos tpos : Pos} {elts : List Expr} {kk : Nat} (hK : X.K = Kf) (hg : Gl X "zip") (hm : X.mg "zip" = none) (ha : PA X [e, e2] ta)
    (hs : starEach [e, e2] X.env = (false, eval e X.env) :: starEach [e2] X.env := by rfl) (hpl : (backTo pos (starEach [e2] X.env)).any (·.1) = false := by rfl) :
    PI X (.Tuple elts kk tpos) (.Call (.Name "zip" p) [e, e2] [] pos) (iZip Kf ta) := hK ▸ pi_zip hg hm ha hs hpl
theorem pg_tupK {es : List Expr} {k : Nat} {t : TGs} {n : Nat} {pos : Pos} (hK : X.K = Kf) (hc : X.calm = true) (h : PGs X es t)
    (hn : (assignEach es X.env).length = n := by rfl) (hst : (assignEach es X.env).findIdx? (·.1) = none := by rfl) : PG X (.Tuple es k pos) (gTup Kf n t) := hK ▸ pg_tup hc h hn hst
theorem pe_bm0K {o : Expr} {to : TE} {name : Str} {apos cpos : Pos} {T id : String} {r : V → List V → Hp → VK → Prop} (hK : X.K = Kf) (pa : PlainAttrs T) (slot : Slot T name id) (hty : typeOf (.builtin id) = pure (.type "method_descriptor")) (hm : MtR X id r) (ho : PE X o to)
    (hbase : attributeBase o name X.env (eval o X.env) = eval o X.env := by rfl) (hline : (apos.endLine == cpos.line) = true := by rfl) : PE X (.Call (.Attribute o name apos) [] [] cpos) (tBM0 Kf T r to) := hK ▸ pe_bm0 pa slot hty hm ho hbase hline
theorem pe_bmK {o e : Expr} {es : List Expr} {to : TE} {t : TA} {name : Str} {apos cpos : Pos} {T id : String} {r : V → List V → Hp → VK → Prop} (hK : X.K = Kf) (pa : PlainAttrs T) (slot : Slot T name id) (hty : typeOf (.builtin id) = pure (.type "method_descriptor")) (hm : MtR X id r) (ho : PE X o to) (ha : PA X (e :: es) t)
    (hbase : attributeBase o name X.env (eval o X.env) = eval o X.env := by rfl)
    (hfew : ((backTo cpos (starEach (e :: es) X.env)).all (fun x => !x.1) && (backToKw cpos (keywordEach [] X.env)).all (fun x => x.1.isSome)
      && decide ((e :: es).length + ([] : List Keyword).length + (if ([] : List Keyword).isEmpty then 0 else 1) < 30)) = true := by rfl)
    (hline : (apos.endLine == cpos.line) = true := by rfl) (hs : starEach (e :: es) X.env = (false, eval e X.env) :: starEach es X.env := by rfl) (hplain : (backTo cpos (starEach es X.env)).any (·.1) = false := by rfl) :
    PE X (.Call (.Attribute o name apos) (e :: es) [] cpos) (tBM Kf T r to t) := hK ▸ pe_bm pa slot hty hm ho ha hbase hfew hline hs hplain
def rJoin (Kf : PySem.W.Frag) : V → List V → Hp → VK → Prop := fun x xs H Q => ∃ a p ys, x = V.str a ∧ xs = [V.ref p] ∧ (SqL Kf H p (List.map V.str ys) ∨ SqT Kf H p (List.map V.str ys)) ∧ (List.map (fun x : Str => x.length) ys).sum + ys.length * a.length ≤ 16777216 ∧ Q (V.str (Txt.join a ys)) H
theorem pe_joinK {o e : Expr} {to te : TE} {apos pos : Pos} (hK : X.K = Kf) (ho : PE X o to) (he : PE X e te) (hs : starEach [e] X.env = [(false, eval e X.env)] := by rfl) (hbase : attributeBase o "join" X.env (eval o X.env) = eval o X.env := by rfl) (hline : (apos.endLine == pos.line) = true := by rfl) :
    PE X (.Call (.Attribute o "join" apos) [e] [] pos) (tM1 (rJoin Kf) to te) := by subst hK; exact pe_join ho he hs hbase hline
end
end VL

namespace VL
open PySem L2
/-! the script -/
def noL (o : Obj) : Bool := match o.cls with | .type t => !(t == "list") | _ => true
theorem lookup_mem {K : PySem.W.Frag} {a : Addr} {o : Obj} : K.lookup a = some o → (a, o) ∈ K := by
  induction K with
  | nil => intro h; cases h
  | cons p r ih =>
    intro h
    rw [List.lookup_cons] at h
    split at h
    · rename_i e
      cases h
      have : a = p.1 := by simpa using e
      subst this
      exact List.mem_cons_self
    · exact List.mem_cons_of_mem _ (ih h)
theorem noL_rd {K : PySem.W.Frag} {H : Hp} {a : Addr} {xs : List V} (h : (K.all fun p => noL p.2) = true) (hS : SqL K H a xs) : Rd H a (.lst xs) := by
  rcases hS with r | ⟨o, its, n, e, c, _⟩
  · exact r
  · have := List.all_eq_true.mp h _ (lookup_mem e)
    simp only [noL, c] at this
    exact absurd this (by decide)
theorem reps_ints {G : Hp} : ∀ ns : List Int, Reps G (ns.map D.int) (ns.map V.int)
  | [] => rfl
  | i :: r => ⟨.int i, r.map V.int, rfl, rfl, reps_ints r⟩
theorem law_end {K : PySem.W.Frag} {H : Hp} {a : Addr} {ns : List Int} {E : XK} {mir : D → Res D} (h : (K.all fun p => noL p.2) = true) (hl : ns.length ≤ 63) (hS : SqL K H a (ns.map V.int)) (hm : mir (.lst (ns.map .int)) = .ok (.bl true)) :
    spOf (A := D) (R := D) (fun _ => 0) (fun a => [.f a]) (fun a => mir a) (fun r => .f r) (fun r => [none]) [.ref a] H (fun v _ => v = .bl true) E := by
  refine ⟨.lst (ns.map .int), H, fun _ => none, Same.refl _, fun x p e => absurd e (by simp), rfl, fun k t e => ?_, ?_, fun r v H' e p => ?_, fun e od H' z => ?_⟩
  · match k, e with
    | 0, e =>
      cases e
      refine ⟨.ref a, rfl, a, ns.map V.int, rfl, noL_rd h hS, ?_, reps_ints ns⟩
      rw [List.length_map, sizeLine_eq]; omega
    | k + 1, e => simp at e
  · show mir _ ≠ _
    rw [hm]; intro z; cases z
  · have e' : mir (.lst (ns.map .int)) = .ok r := e
    rw [hm] at e'
    cases e'
    obtain ⟨G', w', _, _, o, _⟩ := p
    exact o
  · have z' : mir (.lst (ns.map .int)) = .err e := z
    rw [hm] at z'; cases z'
end VL

namespace VL
open PySem L2
/-! mathematics of mirrors -/
def Sat {R : Type} (m : Res R) (P : R → Prop) : Prop := ∃ r, m = .ok r ∧ P r
section
variable {R S Z : Type}
theorem sat_rb {ma : Res S} {k : S → Res R} {P : S → Prop} {Q : R → Prop} (h : Sat ma P) (hk : ∀ r, P r → Sat (k r) Q) : Sat (rb ma k) Q := by
  obtain ⟨r, rfl, p⟩ := h; exact hk r p
theorem sat_ob {o : Option S} {c : S} {k : S → Res R} {Q : R → Prop} (e : o = some c) (h : Sat (k c) Q) : Sat (ob o k) Q := by subst e; exact h
theorem sat_ok {r : R} {P : R → Prop} (h : P r) : Sat (.ok r) P := ⟨r, rfl, h⟩
theorem Sat.mono {m : Res R} {P Q : R → Prop} (h : Sat m P) (i : ∀ r, P r → Q r) : Sat m Q := by obtain ⟨r, e, p⟩ := h; exact ⟨r, e, i r p⟩
theorem sat_of {m : Res R} {r : R} (h : m = .ok r) : Sat m (fun x => x = r) := ⟨r, h, rfl⟩
theorem of_sat {m : Res R} {r : R} (h : Sat m (fun x => x = r)) : m = .ok r := by obtain ⟨x, e, p⟩ := h; rw [e, p]
theorem sat_rbe {ma : Res S} {r : S} {k : S → Res R} {Q : R → Prop} (h : ma = .ok r) (hk : Sat (k r) Q) : Sat (rb ma k) Q := by subst h; exact hk
theorem sat_if {c : Prop} [Decidable c] {a b : Res R} {Q : R → Prop} (h1 : c → Sat a Q) (h2 : ¬ c → Sat b Q) : Sat (if c then a else b) Q := by
  by_cases h : c
  · rw [if_pos h]; exact h1 h
  · rw [if_neg h]; exact h2 h
theorem sat_forN {f : Z → D → Res Z} {I : Nat → Z → Prop} : ∀ (ds : List D) (z0 : Z) (n : Nat), I n z0 → (∀ i z d, ds[i]? = some d → I (n + i) z → Sat (f z d) (I (n + i + 1))) → Sat (forN ds z0 f) (I (n + ds.length))
  | [], z0, n, h0, _ => ⟨z0, rfl, h0⟩
  | d :: r, z0, n, h0, h => by
    refine sat_rb (h 0 z0 d rfl h0) fun z hz => ?_
    have := sat_forN r z (n + 1) hz fun i z d e hi => by
      have := h (i + 1) z d (by simpa using e) (by rw [show n + (i + 1) = n + 1 + i by omega]; exact hi)
      rwa [show n + (i + 1) = n + 1 + i by omega] at this
    rwa [show n + 1 + r.length = n + (d :: r).length by simp; omega] at this
theorem sat_forN0 {f : Z → D → Res Z} {I : Z → Prop} {ds : List D} {z0 : Z} (h0 : I z0) (h : ∀ z d, d ∈ ds → I z → Sat (f z d) I) : Sat (forN ds z0 f) I :=
  sat_forN (I := fun _ => I) ds z0 0 h0 fun i z d e hi => h z d (List.mem_of_getElem? e) hi
theorem sat_forL {f : Z → D → Res (Fl Z R)} {I : Nat → Z → Prop} : ∀ (ds : List D) (z0 : Z) (n : Nat), I n z0 → (∀ i z d, ds[i]? = some d → I (n + i) z → Sat (f z d) (fun o => ∃ z', o = .nx z' ∧ I (n + i + 1) z')) → Sat (forL ds z0 f) (fun o => ∃ z', o = .nx z' ∧ I (n + ds.length) z')
  | [], z0, n, h0, _ => ⟨_, rfl, z0, rfl, h0⟩
  | d :: r, z0, n, h0, h => by
    refine sat_rb (h 0 z0 d rfl h0) fun o hz => ?_
    obtain ⟨z, rfl, hz⟩ := hz
    have := sat_forL r z (n + 1) hz fun i z d e hi => by
      have := h (i + 1) z d (by simpa using e) (by rw [show n + (i + 1) = n + 1 + i by omega]; exact hi)
      rwa [show n + (i + 1) = n + 1 + i by omega] at this
    rwa [show n + 1 + r.length = n + (d :: r).length by simp; omega] at this
theorem sat_forL0 {f : Z → D → Res (Fl Z R)} {I : Z → Prop} {ds : List D} {z0 : Z} (h0 : I z0) (h : ∀ z d, d ∈ ds → I z → Sat (f z d) (fun o => ∃ z', o = .nx z' ∧ I z')) : Sat (forL ds z0 f) (fun o => ∃ z', o = .nx z' ∧ I z') :=
  sat_forL (I := fun _ => I) ds z0 0 h0 fun i z d e hi => h z d (List.mem_of_getElem? e) hi
/-- a loop that may tell at once -/
theorem sat_forLr {f : Z → D → Res (Fl Z R)} {I : Z → Prop} {P : R → Prop} : ∀ (ds : List D) (z0 : Z), I z0 → (∀ z d, d ∈ ds → I z → Sat (f z d) (fun o => (∃ z', o = .nx z' ∧ I z') ∨ ∃ r, o = .rt r ∧ P r)) → Sat (forL ds z0 f) (fun o => (∃ z', o = .nx z' ∧ I z') ∨ ∃ r, o = .rt r ∧ P r)
  | [], z0, h0, _ => ⟨_, rfl, .inl ⟨z0, rfl, h0⟩⟩
  | d :: r, z0, h0, h => by
    refine sat_rb (h z0 d List.mem_cons_self h0) fun o hz => ?_
    rcases hz with ⟨z, rfl, hz⟩ | ⟨x, rfl, hx⟩
    · exact sat_forLr r z hz fun z d e hi => h z d (List.mem_cons_of_mem _ e) hi
    · exact ⟨_, rfl, .inr ⟨x, rfl, hx⟩⟩
theorem sat_while {fc : Z → Res Bool} {f : Z → Res (Fl Z R)} {I : Z → Prop} {E : Z → Prop} {μ : Z → Nat} (h : ∀ z, I z → (fc z = .ok false ∧ E z) ∨ (fc z = .ok true ∧ Sat (f z) (fun o => ∃ z', o = .nx z' ∧ I z' ∧ μ z' < μ z))) :
    ∀ (n : Nat) (z0 : Z), I z0 → μ z0 < n → Sat (whileF n z0 fc f) (fun o => ∃ z, o = .nx z ∧ I z ∧ E z)
  | 0, _, _, hm => absurd hm (Nat.not_lt_zero _)
  | n + 1, z0, h0, hm => by
    rcases h z0 h0 with ⟨e, q⟩ | ⟨e, q⟩
    · show Sat (rb (fc z0) _) _
      rw [e]; exact ⟨_, rfl, z0, rfl, h0, q⟩
    · show Sat (rb (fc z0) _) _
      rw [e]
      show Sat (rb (f z0) _) _
      refine sat_rb q fun o ho => ?_
      obtain ⟨z', rfl, i, m⟩ := ho
      exact sat_while h n z' i (by omega)
theorem sat_whileN {fc : Z → Res Bool} {f : Z → Res Z} {I : Z → Prop} {E : Z → Prop} {μ : Z → Nat} (h : ∀ z, I z → (fc z = .ok false ∧ E z) ∨ (fc z = .ok true ∧ Sat (f z) (fun z' => I z' ∧ μ z' < μ z))) :
    ∀ (n : Nat) (z0 : Z), I z0 → μ z0 < n → Sat (whileN n z0 fc f) (fun z => I z ∧ E z)
  | 0, _, _, hm => absurd hm (Nat.not_lt_zero _)
  | n + 1, z0, h0, hm => by
    rcases h z0 h0 with ⟨e, q⟩ | ⟨e, q⟩
    · show Sat (rb (fc z0) _) _
      rw [e]; exact ⟨_, rfl, h0, q⟩
    · show Sat (rb (fc z0) _) _
      rw [e]
      show Sat (rb (f z0) _) _
      refine sat_rb q fun z' ho => ?_
      exact sat_whileN h n z' ho.1 (by omega)
theorem fmR_eq {f : D → Res (Option D)} {g : D → Option D} : ∀ (ds : List D), (∀ d ∈ ds, f d = .ok (g d)) → fmR ds f = .ok (ds.filterMap g)
  | [], _ => rfl
  | d :: r, h => by
    show rb (f d) _ = _
    rw [h d List.mem_cons_self]
    show rb (fmR r f) _ = _
    rw [fmR_eq r fun d hd => h d (List.mem_cons_of_mem _ hd)]
    rw [List.filterMap_cons]
    cases g d <;> rfl
theorem fmR_map {f : D → Res (Option D)} {g : D → D} (ds : List D) (h : ∀ d ∈ ds, f d = .ok (some (g d))) : fmR ds f = .ok (ds.map g) := by
  rw [fmR_eq (g := fun d => some (g d)) ds h]
  congr 1
  induction ds with
  | nil => rfl
  | cons d r ih => rw [List.filterMap_cons, List.map_cons, ih fun d hd => h d (List.mem_cons_of_mem _ hd)]
theorem sat_fmS {f : Z → D → Res (Option D × Z)} {I : Z → List D → Prop} : ∀ (ds : List D) (z0 : Z) (acc : List D), I z0 acc → (∀ z d acc, d ∈ ds → I z acc → Sat (f z d) (fun o => I o.2 (accD acc o.1))) → Sat (fmS ds z0 f) (fun p => I p.2 (acc ++ p.1))
  | [], z0, acc, h0, _ => ⟨_, rfl, by show I z0 (acc ++ []); rw [List.append_nil]; exact h0⟩
  | d :: r, z0, acc, h0, h => by
    refine sat_rb (h z0 d acc List.mem_cons_self h0) fun o ho => ?_
    have := sat_fmS r o.2 (accD acc o.1) ho fun z d acc hd => h z d acc (List.mem_cons_of_mem _ hd)
    refine sat_rb this fun q hq => ⟨_, rfl, ?_⟩
    cases e : o.1 with
    | none => rw [e] at hq; exact hq
    | some y =>
      rw [e] at hq
      have : acc ++ [y] ++ q.1 = acc ++ (y :: q.1) := by simp
      rw [← this]; exact hq
end
/-! values -/
theorem atI_n {α : Type} (xs : List α) (j : Nat) : atI xs ((j : Nat) : Int) = xs[j]? := by
  unfold atI ixN
  rw [if_pos (by omega)]
  by_cases h : (j : Int) < xs.length
  · rw [if_pos h]; simp
  · rw [if_neg h]; simp; omega
theorem ixN_n {n j : Nat} (h : j < n) : ixN n ((j : Nat) : Int) = some j := by
  unfold ixN
  rw [if_pos (by omega), if_pos (by omega)]; simp
theorem ix_l {l : List D} {i : Nat} {d : D} (h : l[i]? = some d) : ixD (.lst l) (.int (i : Nat)) = some d := by
  show atI l _ = _
  rw [atI_n]; exact h
theorem ix_t {l : List D} {i : Nat} {d : D} (h : l[i]? = some d) : ixD (.tup l) (.int (i : Nat)) = some d := by
  show atI l _ = _
  rw [atI_n]; exact h
theorem ix_s {s : List Nat} {i c : Nat} (h : s[i]? = some c) (hl : s.length ≤ 16777216) : ixD (.str s) (.int (i : Nat)) = some (.str [c]) := by
  show (if s.length ≤ 16777216 then (atI s _).map _ else none) = _
  rw [if_pos hl, atI_n, h]; rfl
theorem set_l {l : List D} {i : Nat} {d : D} (h : i < l.length) : setL l (.int (i : Nat)) d = some (l.set i d) := by
  show (ixN l.length _).map _ = _
  rw [ixN_n h]; rfl
theorem ixNd_n {n i : Nat} (h : i < n) : ixNd n (.int (i : Nat)) = some i := ixN_n h
theorem rng0 {n : Nat} (h : n ≤ 16777216) : rngD (.int 0) (.int (n : Nat)) = some ((List.range n).map fun k => .int (k : Nat)) := by
  show (if _ then _ else _) = _
  rw [if_pos (by omega)]
  simp
theorem ap_l {l : List D} {d : D} (h : l.length < 16777216) : apL l d = some (l ++ [d]) := if_pos h
theorem cat_l {a b : List D} (h : a.length + b.length ≤ 16777216) : catD (.lst a) (.lst b) = some (a ++ b) := if_pos h
theorem cut_to {α : Type} (l : List α) (n : Nat) (h : n ≤ l.length) : cut l none (some (n : Nat)) = l.take n := by
  unfold cut
  rw [HT.sIx_nat, HT.sIx_none, Nat.min_eq_left h]; simp
theorem cut_from {α : Type} (l : List α) (n : Nat) (h : n ≤ l.length) : cut l (some (n : Nat)) none = l.drop n := by
  unfold cut
  rw [HT.sIx_nat, HT.sIx_none, Nat.min_eq_left h]
  rw [List.take_of_length_le (by rw [List.length_drop]; omega)]
theorem add_s {a b : List Nat} (h : a.length + b.length ≤ 16777216) : addD (.str a) (.str b) = some (.str (a ++ b)) := if_pos h
theorem len_s {a : List Nat} (h : a.length ≤ 16777216) : lenD (.str a) = some (.int a.length) := if_pos h
theorem mod_i {a b : Int} (h : 0 < b) : modD (.int a) (.int b) = some (.int (a % b)) := if_pos h
theorem fdiv_i {a b : Int} (h : 0 < b ∧ b < 1073741824) : fdivD (.int a) (.int b) = some (.int (a / b)) := if_pos h
theorem mul_l {a b : Int} (h : -18446744073709551616 < a ∧ a < 18446744073709551616) : mulD (.int a) (.int b) = some (.int (a * b)) := if_pos (.inl h)
theorem mul_r {a b : Int} (h : -18446744073709551616 < b ∧ b < 18446744073709551616) : mulD (.int a) (.int b) = some (.int (a * b)) := if_pos (.inr h)
theorem add_i {a b : Int} : addD (.int a) (.int b) = some (.int (a + b)) := rfl
theorem len_l {l : List D} : lenD (.lst l) = some (.int l.length) := rfl
mutual
theorem eqvR : ∀ d : D, d.plain = true → D.eqv d d = true
  | .non, _ => rfl
  | .bl b, _ => by simp [D.eqv]
  | .int b, _ => by simp [D.eqv]
  | .str b, _ => by simp [D.eqv]
  | .tup l, h => by simp only [D.eqv]; exact eqvsR l (by simpa [D.plain] using h)
  | .lst l, h => by simp only [D.eqv]; exact eqvsR l (by simpa [D.plain] using h)
  | .dct _ _, h => by simp [D.plain] at h
  | .opq _, h => by simp [D.plain] at h
theorem eqvsR : ∀ l : List D, D.plains l = true → D.eqvs l l = true
  | [], _ => rfl
  | d :: r, h => by
    simp only [D.plains, Bool.and_eq_true] at h
    simp only [D.eqvs, Bool.and_eq_true]
    exact ⟨eqvR d h.1, eqvsR r h.2⟩
end
theorem eq_same {d : D} (p : d.plain = true) (h : d.dep ≤ 60) : eqD d d = some true := by
  unfold eqD
  rw [if_pos ⟨p, p, by omega⟩, eqvR d p]
theorem ne_same {d : D} (p : d.plain = true) (h : d.dep ≤ 60) : neD d d = some false := by
  unfold neD
  rw [eq_same p h]; rfl
theorem eq_str {a b : List Nat} : eqD (.str a) (.str b) = some (a == b) := by
  unfold eqD
  rw [if_pos ⟨rfl, rfl, Nat.zero_le _⟩]
  simp [D.eqv]
theorem ne_str {a b : List Nat} : neD (.str a) (.str b) = some (!(a == b)) := by
  unfold neD; rw [eq_str]; rfl
theorem ne_nil {l : List D} (p : D.plains l = true) (h : D.deps l ≤ 60) : neD (.lst l) (.lst []) = some (!l.isEmpty) := by
  unfold neD eqD
  rw [if_pos ⟨by simpa [D.plain] using p, rfl, by simp [D.dep, D.deps]⟩]
  cases l <;> rfl
theorem eq_nil {l : List D} (p : D.plains l = true) : eqD (.lst l) (.lst []) = some l.isEmpty := by
  unfold eqD
  rw [if_pos ⟨by simpa [D.plain] using p, rfl, by simp [D.dep, D.deps]⟩]
  cases l <;> rfl
theorem plains_iff : ∀ {l : List D}, D.plains l = true ↔ ∀ d ∈ l, d.plain = true
  | [] => by simp [D.plains]
  | d :: r => by simp [D.plains, plains_iff (l := r)]
theorem deps_le : ∀ {l : List D} {n : Nat}, (∀ d ∈ l, d.dep ≤ n) → D.deps l ≤ n
  | [], _, _ => Nat.zero_le _
  | d :: r, n, h => by
    simp only [D.deps]
    have := h d List.mem_cons_self
    have := deps_le (l := r) fun x hx => h x (List.mem_cons_of_mem _ hx)
    omega
end VL

set_option maxHeartbeats 0
namespace W
open PySem PySem.Spec PyProof.Rows L2 VL
def topS (i : Nat) : Stmt := PySem.Challenge.pw_anydelay_k30_signs_of_nodes.main.body.getD i (.Pass ⟨0, 0, 0, 0⟩)
abbrev q0 : List Nat := [97]
theorem e_q0 : (PySem.Str.ofString "a") = mkS q0 := by decide +kernel
abbrev q1 : List Nat := [98]
theorem e_q1 : (PySem.Str.ofString "b") = mkS q1 := by decide +kernel
abbrev q2 : List Nat := [99]
theorem e_q2 : (PySem.Str.ofString "c") = mkS q2 := by decide +kernel
abbrev q3 : List Nat := [97, 98]
theorem e_q3 : (PySem.Str.ofString "ab") = mkS q3 := by decide +kernel
abbrev q4 : List Nat := [98, 97]
theorem e_q4 : (PySem.Str.ofString "ba") = mkS q4 := by decide +kernel
abbrev q5 : List Nat := [104, 111, 108, 100]
theorem e_q5 : (PySem.Str.ofString "hold") = mkS q5 := by decide +kernel
abbrev q6 : List Nat := [115, 101, 116]
theorem e_q6 : (PySem.Str.ofString "set") = mkS q6 := by decide +kernel
abbrev q7 : List Nat := [120]
theorem e_q7 : (PySem.Str.ofString "x") = mkS q7 := by decide +kernel
abbrev q8 : List Nat := [122, 122, 122, 122, 122, 122, 122, 122]
theorem e_q8 : (PySem.Str.ofString "zzzzzzzz") = mkS q8 := by decide +kernel
abbrev q9 : List Nat := [97, 97]
theorem e_q9 : (PySem.Str.ofString "aa") = mkS q9 := by decide +kernel
abbrev q10 : List Nat := [119, 105, 114, 101]
theorem e_q10 : (PySem.Str.ofString "wire") = mkS q10 := by decide +kernel
abbrev q11 : List Nat := [110, 111, 116]
theorem e_q11 : (PySem.Str.ofString "not") = mkS q11 := by decide +kernel
abbrev q12 : List Nat := [97, 110, 100]
theorem e_q12 : (PySem.Str.ofString "and") = mkS q12 := by decide +kernel
abbrev q13 : List Nat := [111, 114]
theorem e_q13 : (PySem.Str.ofString "or") = mkS q13 := by decide +kernel
abbrev q14 : List Nat := [113]
theorem e_q14 : (PySem.Str.ofString "q") = mkS q14 := by decide +kernel
abbrev q15 : List Nat := [49, 48]
theorem e_q15 : (PySem.Str.ofString "10") = mkS q15 := by decide +kernel
abbrev q16 : List Nat := []
theorem e_q16 : (PySem.Str.ofString "") = mkS q16 := by decide +kernel
abbrev q17 : List Nat := [48, 49]
theorem e_q17 : (PySem.Str.ofString "01") = mkS q17 := by decide +kernel
def m__law_store (x_cell : D) : Res (List D) :=
  rb (ob (powD (.int 10) (.int 18)) fun t5 => ob (geD x_cell t5) fun t4 => if t4 = true then .ok x_cell else .ok (.int 0) : Res D) fun z3 => ob (modD x_cell (.int 2147483629)) fun t6 => .ok ([z3, t6, (.int 1)])
abbrev s__law_store : Stmt := topS 6
theorem sc__law_store : FnScope ["cell", "great"] ["cell"] (defScope s__law_store) := ⟨rfl, rfl, rfl, by decide +kernel, rfl, by decide +kernel, by decide +kernel⟩
def m__law_take (x_store : List D) (x_many : D) : Res (D × (List D)) :=
  (ob (ixD (.lst x_store) (.int 0)) fun t2 => ob (gtD t2 (.int 0)) fun t1 => if t1 = true then ob (ixD (.lst x_store) (.int 0)) fun t4 => ob (modD t4 x_many) fun t3 => ob (ixD (.lst x_store) (.int 0)) fun t7 => ob (fdivD t7 x_many) fun t6 => ob (setL x_store (.int 0) t6) fun t5 => .ok (t3, t5) else ob (ixD (.lst x_store) (.int 2)) fun t10 => ob (addD t10 (.int 1)) fun t9 => ob (setL x_store (.int 2) t9) fun t8 => ob (ixD (.lst t8) (.int 1)) fun t14 => ob (ixD (.lst t8) (.int 2)) fun t16 => ob (mulD (.int 7919) t16) fun t15 => ob (addD t14 t15) fun t13 => ob (mulD t13 (.int 48271)) fun t12 => ob (modD t12 (.int 2147483647)) fun t11 => ob (mulD t11 t11) fun t18 => ob (modD t18 (.int 2147483629)) fun t17 => ob (ixD (.lst t8) (.int 2)) fun t23 => ob (mulD (.int 40692) t23) fun t22 => ob (addD t17 t22) fun t21 => ob (mulD t21 (.int 69621)) fun t20 => ob (modD t20 (.int 2147483587)) fun t19 => ob (fdivD t19 (.int 8)) fun t25 => ob (modD t25 x_many) fun t24 => .ok (t24, t8))
abbrev s__law_take : Stmt := topS 7
theorem sc__law_take : FnScope ["store", "many", "one", "told"] ["store", "many"] (defScope s__law_take) := ⟨rfl, rfl, rfl, by decide +kernel, rfl, by decide +kernel, by decide +kernel⟩
def m__law_some_names (x_store : List D) (x_many : D) : Res ((List D) × (List D)) :=
  ob (rngD (.int 0) x_many) fun ds4 => rb (fmS ds4 ([(.str q0), (.str q1), (.str q2), (.str q3), (.str q4), (.str q5), (.str q6), (.str q7), (.str q8), (.str q9), (.str q10), (.str q11), (.str q12), (.str q13), (.str q14)], x_store) fun z2 d1 => ob (lenD (.lst z2.1)) fun t7 => rb (m__law_take z2.2 t7) fun r6 => ob (popAtL z2.1 r6.1) fun t5 => .ok (some t5.1, (t5.2, r6.2))) fun p3 => .ok (p3.1, p3.2.2)
abbrev s__law_some_names : Stmt := topS 8
theorem sc__law_some_names : FnScope ["store", "many", "spare", "k"] ["store", "many"] (defScope s__law_some_names) := ⟨rfl, rfl, rfl, by decide +kernel, rfl, by decide +kernel, by decide +kernel⟩
theorem blk__law_some_names_0 : BlkOk ["store", "many", "spare", "k"] (defScope s__law_some_names) { kind := PySem.ScopeKind.function, names := [ (PySem.Str.ofString ".0", PySem.NameKind.local), (PySem.Str.ofString "k", PySem.NameKind.local), (PySem.Str.ofString "_law_take", PySem.NameKind.globalImplicit), (PySem.Str.ofString "len", PySem.NameKind.globalImplicit), (PySem.Str.ofString "spare", PySem.NameKind.free), (PySem.Str.ofString "store", PySem.NameKind.free)], isGenerator := false, isCoroutine := false, more := [] : PySem.Scope } [("k", 3)] := ⟨rfl, by decide +kernel, by decide +kernel, by decide +kernel, by decide +kernel⟩
def m__law_flip (x_signs : D) (x_at : D) : Res D :=
  ob (asI x_at) fun t4 => ob (slS none (some t4) x_signs) fun t3 => ob (ixD x_signs x_at) fun t7 => ob (intD t7) fun t6 => ob (ixD (.str q15) t6) fun t5 => ob (addD t3 t5) fun t2 => ob (addD x_at (.int 1)) fun t10 => ob (asI t10) fun t9 => ob (slS (some t9) none x_signs) fun t8 => ob (addD t2 t8) fun t1 => .ok t1
abbrev s__law_flip : Stmt := topS 9
theorem sc__law_flip : FnScope ["signs", "at"] ["signs", "at"] (defScope s__law_flip) := ⟨rfl, rfl, rfl, by decide +kernel, rfl, by decide +kernel, by decide +kernel⟩
def m__law_sheet (x_store : List D) (x_most : D) : Res (D × (List D)) :=
  rb (m__law_take x_store (.int 5)) fun r1 => rb (m__law_take r1.2 (.int 4)) fun r5 => ob (ixD (.lst [(.int 3), (.int 3), (.int 3), (.int 7)]) r5.1) fun t4 => rb (m__law_take r5.2 t4) fun r3 => ob (addD (.int 1) r3.1) fun t2 => ob (addD r1.1 t2) fun t7 => rb (m__law_some_names r3.2 t7) fun r6 => ob (asStr (.str q16)) fun t9 => ob (asLst (.lst r6.1)) fun ds13 => rb (fmS ds13 r6.2 fun z11 d10 => rb (m__law_take z11 (.int 2)) fun r15 => ob (ixD (.str q17) r15.1) fun t14 => .ok (some t14, r15.2)) fun p12 => ob (joinD (.str q16) (.lst p12.1)) fun t8 => rb (m__law_take p12.2 x_most) fun r19 => ob (rngD (.int 0) r19.1) fun ds18 => rb (forN (Z := ((List D) × (List (List D)) × (List D))) ds18 (r19.2, ([[]] : List (List D)), [t8]) fun z17 d16 => rb (m__law_take z17.1 (.int ((z17.2.1).length : Nat))) fun r20 => ob (lenD (.lst r6.1)) fun t24 => ob (rngD (.int 0) t24) fun ds23 => rb (fmR ds23 fun d21 => ob (ixD (.lst r6.1) d21) fun t26 => ob (ixNd (z17.2.1).length r20.1) fun j30 => rb (fmR ((z17.2.1).getD j30 []) fun d27 => ob (un2 d27) fun p32 => .ok (some p32.1)) fun ys28 => ob (notInD t26 (.lst ys28)) fun t25 => if t25 = true then .ok (some d21) else .ok none) fun ys22 => (ob (neD (.lst ys22) (.lst [])) fun t33 => if t33 = true then ob (lenD (.lst ys22)) fun t36 => rb (m__law_take r20.2 t36) fun r35 => ob (ixD (.lst ys22) r35.1) fun t34 => ob (ixNd (z17.2.1).length r20.1) fun j37 => ob (ixD (.lst r6.1) t34) fun t40 => ob (apL ((z17.2.1).getD j37 []) (.tup [t40, (.int ((z17.2.1).length : Nat))])) fun t39 => ob (ixD (.lst z17.2.2) r20.1) fun t43 => rb (m__law_flip t43 t34) fun r42 => ob (apL z17.2.2 r42) fun t41 => (if ((((z17.2.1).set j37 t39)).map VL.T.l).length < 16777216 then .ok (r35.2, (((z17.2.1).set j37 t39) ++ [[]]), t41) else .fail) else .ok (r20.2, z17.2.1, z17.2.2))) fun z17 => ob (mulD (.int 2) x_most) fun t49 => rb (m__law_take z17.1 t49) fun r48 => ob (rngD (.int 0) r48.1) fun ds47 => rb (forN (Z := ((List D) × (List (List D)))) ds47 (r48.2, z17.2.1) fun z46 d45 => rb (m__law_take z46.1 (.int ((z46.2).length : Nat))) fun r50 => ob (lenD (.lst r6.1)) fun t52 => rb (m__law_take r50.2 t52) fun r51 => ob (rngD (.int 0) (.int ((z46.2).length : Nat))) fun ds55 => rb (fmR ds55 fun d53 => ob (ixD (.lst z17.2.2) d53) fun t57 => ob (ixD (.lst z17.2.2) r50.1) fun t59 => rb (m__law_flip t59 r51.1) fun r58 => ob (eqD t57 r58) fun t56 => if t56 = true then .ok (some d53) else .ok none) fun ys54 => (ob (neD (.lst ys54) (.lst [])) fun t61 => rb (if t61 = true then ob (ixD (.lst r6.1) r51.1) fun t63 => ob (ixNd (z46.2).length r50.1) fun j67 => rb (fmR ((z46.2).getD j67 []) fun d64 => ob (un2 d64) fun p69 => .ok (some p69.1)) fun ys65 => ob (notInD t63 (.lst ys65)) fun t62 => .ok (t62, ()) else .ok (false, ()) : Res (Bool × Unit)) fun p60 => if p60.1 = true then ob (ixNd (z46.2).length r50.1) fun j70 => ob (ixD (.lst r6.1) r51.1) fun t73 => ob (lenD (.lst ys54)) fun t76 => rb (m__law_take r51.2 t76) fun r75 => ob (ixD (.lst ys54) r75.1) fun t74 => ob (apL ((z46.2).getD j70 []) (.tup [t73, t74])) fun t72 => .ok (r75.2, ((z46.2).set j70 t72)) else .ok (r51.2, z46.2))) fun z46 => rb (m__law_take z46.1 (.int 4)) fun r82 => ob (ixD (.lst [(.int 0), (.int 0), (.int 1), (.int 2)]) r82.1) fun t81 => ob (ltD (.int ((z46.2).length : Nat)) (.int 38)) fun t84 => ob (intD (.bl t84)) fun t83 => ob (mulD t81 t83) fun t80 => ob (rngD (.int 0) t80) fun ds79 => rb (forN (Z := ((List (List D)) × (List D))) ds79 (z46.2, r82.2) fun z78 d77 => ob (lenD (.lst r6.1)) fun t88 => rb (m__law_take z78.2 t88) fun r87 => ob (ixD (.lst r6.1) r87.1) fun t86 => ob (addD (.int ((z78.1).length : Nat)) (.int 1)) fun t90 => rb (m__law_take r87.2 t90) fun r89 => (if ((z78.1).map VL.T.l).length < 16777216 then .ok ((z78.1 ++ [[(.tup [t86, r89.1])]]), r89.2) else .fail)) fun z78 => ob (asI r1.1) fun t92 => ob (slL none (some t92) (.lst r6.1)) fun t91 => ob (asI r1.1) fun t94 => ob (slL (some t94) none (.lst r6.1)) fun t93 => ob (ixD (.lst z17.2.2) (.int 0)) fun t95 => .ok ((.tup [(.lst t91), (.lst t93), t95, (VL.T.er (.ll ((z78.1).map VL.T.l)))]), z78.2)
abbrev s__law_sheet : Stmt := topS 10
theorem sc__law_sheet : FnScope ["store", "most", "ins", "outs", "names", "rows", "nodes", "k", "here", "left", "at", "fits", "to", "name"] ["store", "most"] (defScope s__law_sheet) := ⟨rfl, rfl, rfl, by decide +kernel, rfl, by decide +kernel, by decide +kernel⟩
theorem blk__law_sheet_0 : BlkOk ["store", "most", "ins", "outs", "names", "rows", "nodes", "k", "here", "left", "at", "fits", "to", "name"] (defScope s__law_sheet) { kind := PySem.ScopeKind.function, names := [ (PySem.Str.ofString ".0", PySem.NameKind.local), (PySem.Str.ofString "name", PySem.NameKind.local), (PySem.Str.ofString "to", PySem.NameKind.local)], isGenerator := false, isCoroutine := false, more := [] : PySem.Scope } [("name", 13), ("to", 12)] := ⟨rfl, by decide +kernel, by decide +kernel, by decide +kernel, by decide +kernel⟩
theorem blk__law_sheet_1 : BlkOk ["store", "most", "ins", "outs", "names", "rows", "nodes", "k", "here", "left", "at", "fits", "to", "name"] (defScope s__law_sheet) { kind := PySem.ScopeKind.function, names := [ (PySem.Str.ofString ".0", PySem.NameKind.local), (PySem.Str.ofString "to", PySem.NameKind.local), (PySem.Str.ofString "_law_flip", PySem.NameKind.globalImplicit), (PySem.Str.ofString "at", PySem.NameKind.free), (PySem.Str.ofString "here", PySem.NameKind.free), (PySem.Str.ofString "rows", PySem.NameKind.free)], isGenerator := false, isCoroutine := false, more := [] : PySem.Scope } [("to", 12)] := ⟨rfl, by decide +kernel, by decide +kernel, by decide +kernel, by decide +kernel⟩
theorem blk__law_sheet_2 : BlkOk ["store", "most", "ins", "outs", "names", "rows", "nodes", "k", "here", "left", "at", "fits", "to", "name"] (defScope s__law_sheet) { kind := PySem.ScopeKind.function, names := [ (PySem.Str.ofString ".0", PySem.NameKind.local), (PySem.Str.ofString "at", PySem.NameKind.local), (PySem.Str.ofString "here", PySem.NameKind.free), (PySem.Str.ofString "names", PySem.NameKind.free), (PySem.Str.ofString "nodes", PySem.NameKind.free)], isGenerator := false, isCoroutine := false, more := [] : PySem.Scope } [("at", 10)] := ⟨rfl, by decide +kernel, by decide +kernel, by decide +kernel, by decide +kernel⟩
theorem blk__law_sheet_3 : BlkOk ["store", "most", "ins", "outs", "names", "rows", "nodes", "k", "here", "left", "at", "fits", "to", "name"] ({ kind := PySem.ScopeKind.function, names := [ (PySem.Str.ofString ".0", PySem.NameKind.local), (PySem.Str.ofString "at", PySem.NameKind.local), (PySem.Str.ofString "here", PySem.NameKind.cell), (PySem.Str.ofString "names", PySem.NameKind.cell), (PySem.Str.ofString "nodes", PySem.NameKind.cell)], isGenerator := false, isCoroutine := false, more := [] : PySem.Scope } : Scope) { kind := PySem.ScopeKind.function, names := [ (PySem.Str.ofString ".0", PySem.NameKind.local), (PySem.Str.ofString "name", PySem.NameKind.local), (PySem.Str.ofString "to", PySem.NameKind.local)], isGenerator := false, isCoroutine := false, more := [] : PySem.Scope } [("name", 13), ("to", 12)] := ⟨rfl, by decide +kernel, by decide +kernel, by decide +kernel, by decide +kernel⟩
theorem blk__law_sheet_4 : BlkOk ["store", "most", "ins", "outs", "names", "rows", "nodes", "k", "here", "left", "at", "fits", "to", "name"] (defScope s__law_sheet) { kind := PySem.ScopeKind.function, names := [ (PySem.Str.ofString ".0", PySem.NameKind.local), (PySem.Str.ofString "name", PySem.NameKind.local), (PySem.Str.ofString "_law_take", PySem.NameKind.globalImplicit), (PySem.Str.ofString "store", PySem.NameKind.free)], isGenerator := false, isCoroutine := false, more := [] : PySem.Scope } [("name", 13)] := ⟨rfl, by decide +kernel, by decide +kernel, by decide +kernel, by decide +kernel⟩
def m__law_sheet_copy (x_sheet : D) : Res D :=
  ob (ixD x_sheet (.int 0)) fun t2 => ob (listD t2) fun t1 => ob (ixD x_sheet (.int 1)) fun t4 => ob (listD t4) fun t3 => ob (ixD x_sheet (.int 2)) fun t5 => ob (ixD x_sheet (.int 3)) fun t9 => ob (asLst t9) fun ds8 => rb (fmR ds8 fun d6 => ob (listD d6) fun t10 => .ok (some (.lst t10))) fun ys7 => .ok (.tup [(.lst t1), (.lst t3), t5, (.lst ys7)])
abbrev s__law_sheet_copy : Stmt := topS 11
theorem sc__law_sheet_copy : FnScope ["sheet", "node"] ["sheet"] (defScope s__law_sheet_copy) := ⟨rfl, rfl, rfl, by decide +kernel, rfl, by decide +kernel, by decide +kernel⟩
theorem blk__law_sheet_copy_0 : BlkOk ["sheet", "node"] (defScope s__law_sheet_copy) { kind := PySem.ScopeKind.function, names := [ (PySem.Str.ofString ".0", PySem.NameKind.local), (PySem.Str.ofString "node", PySem.NameKind.local), (PySem.Str.ofString "list", PySem.NameKind.globalImplicit)], isGenerator := false, isCoroutine := false, more := [] : PySem.Scope } [("node", 1)] := ⟨rfl, by decide +kernel, by decide +kernel, by decide +kernel, by decide +kernel⟩
def m__law_signs (x_sheet : D) : Res D :=
  ob (ixD x_sheet (.int 0)) fun t2 => ob (ixD x_sheet (.int 1)) fun t3 => ob (catD t2 t3) fun t1 => ob (ixD x_sheet (.int 3)) fun t6 => ob (lenD t6) fun t5 => ob (repL [.non] t5) fun t4 => ob (ixD x_sheet (.int 2)) fun t8 => ob (setL t4 (.int 0) t8) fun t7 => rb (whileF (Z := (D × (List D) × (List D))) (R := D) FU ((.int 0), t7, [(.int 0)]) (fun z9 => ob (lenD (.lst z9.2.2)) fun t11 => ob (ltD z9.1 t11) fun t10 => .ok t10) fun z9 => ob (ixD (.lst z9.2.2) z9.1) fun t12 => ob (addD z9.1 (.int 1)) fun t13 => ob (ixD x_sheet (.int 3)) fun t18 => ob (ixD t18 t12) fun t17 => ob (asLst t17) fun ds16 => rb (forL (Z := ((List D) × (List D))) (R := D) ds16 (z9.2.1, z9.2.2) fun z15 d14 => ob (un2 d14) fun p19 => ob (ixD (.lst z15.1) t12) fun t21 => ob (asLst (.lst t1)) fun t23 => ob (indexD (.lst t1) p19.1) fun t22 => rb (m__law_flip t21 t22) fun r20 => rb (ob (ixD (.lst z15.1) p19.2) fun t30 => ob (isnD t30 .non) fun t29 => if t29 = true then ob (setL z15.1 p19.2 r20) fun t31 => ob (apL z15.2 p19.2) fun t32 => .ok (t31, t32) else .ok (z15.1, z15.2) : Res ((List D) × (List D))) fun z28 => (ob (ixD (.lst z28.1) p19.2) fun t34 => ob (neD t34 r20) fun t33 => if t33 = true then .ok (.rt .non) else .ok (.nx (z28.1, z28.2)))) fun o => Fl.on o (fun z15 => .ok (.nx (t13, z15.1, z15.2))) (fun r => .ok (.rt r))) fun o => Fl.on o (fun z9 => .ok (.lst z9.2.1)) (fun r => .ok r)
abbrev s__law_signs : Stmt := topS 12
theorem sc__law_signs : FnScope ["sheet", "names", "found", "line", "at", "here", "name", "to", "signs"] ["sheet"] (defScope s__law_signs) := ⟨rfl, rfl, rfl, by decide +kernel, rfl, by decide +kernel, by decide +kernel⟩
def m_behind_turn (x_names : D) (x_signs : D) (x_name : D) : Res D :=
  ob (asLst x_names) fun t2 => ob (indexD x_names x_name) fun t1 => ob (asI t1) fun t6 => ob (slS none (some t6) x_signs) fun t5 => ob (ixD x_signs t1) fun t10 => ob (intD t10) fun t9 => ob (subD (.int 1) t9) fun t8 => ob (strI t8) fun t7 => ob (addD t5 t7) fun t4 => ob (addD t1 (.int 1)) fun t13 => ob (asI t13) fun t12 => ob (slS (some t12) none x_signs) fun t11 => ob (addD t4 t11) fun t3 => .ok t3
abbrev s_behind_turn : Stmt := topS 1
theorem sc_behind_turn : FnScope ["names", "signs", "name", "at"] ["names", "signs", "name"] (defScope s_behind_turn) := ⟨rfl, rfl, rfl, by decide +kernel, rfl, by decide +kernel, by decide +kernel⟩
def m_rows_of (x_names : D) (x_first : D) (x_nodes : D) : Res D :=
  (if (keyK (.int 0)).isSome = true then rb (whileF (Z := ((List D) × (List (D × D)))) (R := D) FU ([(.int 0)], [((.int 0), x_first)]) (fun z1 => ob (neD (.lst z1.1) (.lst [])) fun t2 => .ok t2) fun z1 => ob (popL z1.1) fun t3 => ob (ixD x_nodes t3.1) fun t7 => ob (asLst t7) fun ds6 => rb (forL (Z := ((List (D × D)) × (List D))) (R := D) ds6 (z1.2, t3.2) fun z5 d4 => ob (un2 d4) fun p8 => ob (dgetD (.dct false z5.1) t3.1) fun t10 => rb (m_behind_turn x_names t10 p8.1) fun r9 => (ob (dinD p8.2 (.dct false z5.1)) fun t11 => if (!t11) = true then ob (dputD false z5.1 p8.2 r9) fun t12 => ob (apL z5.2 p8.2) fun t13 => .ok (.nx (t12, t13)) else (ob (dgetD (.dct false z5.1) p8.2) fun t15 => ob (neD t15 r9) fun t14 => if t14 = true then .ok (.rt .non) else .ok (.nx (z5.1, z5.2))))) fun o => Fl.on o (fun z5 => .ok (.nx (z5.2, z5.1))) (fun r => .ok (.rt r))) fun o => Fl.on o (fun z1 => .ok (.dct false z1.2)) (fun r => .ok r) else .fail)
abbrev s_rows_of : Stmt := topS 2
theorem sc_rows_of : FnScope ["names", "first", "nodes", "found", "waiting", "here", "name", "to", "signs"] ["names", "first", "nodes"] (defScope s_rows_of) := ⟨rfl, rfl, rfl, by decide +kernel, rfl, by decide +kernel, by decide +kernel⟩
def m_signs_of (x_sheet : D) : Res (List D) :=
  ob (un4 x_sheet) fun p1 => ob (catD p1.1 p1.2.1) fun t3 => rb (m_rows_of (.lst t3) p1.2.2.1 p1.2.2.2) fun r2 => ob (lenD p1.2.2.2) fun t7 => ob (rngD (.int 0) t7) fun ds6 => rb (fmR ds6 fun d4 => ob (asDc r2) fun t9 => ob (dget1D r2 d4) fun t8 => .ok (some t8)) fun ys5 => .ok ys5
abbrev s_signs_of : Stmt := topS 3
theorem sc_signs_of : FnScope ["sheet", "found", "inputs", "outputs", "first", "nodes", "number"] ["sheet"] (defScope s_signs_of) := ⟨rfl, rfl, rfl, by decide +kernel, rfl, by decide +kernel, by decide +kernel⟩
theorem blk_signs_of_0 : BlkOk ["sheet", "found", "inputs", "outputs", "first", "nodes", "number"] (defScope s_signs_of) { kind := PySem.ScopeKind.function, names := [ (PySem.Str.ofString ".0", PySem.NameKind.local), (PySem.Str.ofString "number", PySem.NameKind.local), (PySem.Str.ofString "found", PySem.NameKind.free)], isGenerator := false, isCoroutine := false, more := [] : PySem.Scope } [("number", 6)] := ⟨rfl, by decide +kernel, by decide +kernel, by decide +kernel, by decide +kernel⟩
def m__law_cell (x_script : D) (x_k : D) : Res D :=
  (ob (lenD x_script) fun t2 => ob (ltD x_k t2) fun t1 => if t1 = true then ob (ixD x_script x_k) fun t3 => .ok t3 else ob (mulD (.int 7) x_k) fun t7 => ob (mulD t7 x_k) fun t6 => ob (mulD (.int 3) x_k) fun t8 => ob (addD t6 t8) fun t5 => ob (addD t5 (.int 11)) fun t4 => .ok t4)
abbrev s__law_cell : Stmt := topS 5
theorem sc__law_cell : FnScope ["script", "k"] ["script", "k"] (defScope s__law_cell) := ⟨rfl, rfl, rfl, by decide +kernel, rfl, by decide +kernel, by decide +kernel⟩
def m__law_walked (x_store : List D) (x_sheet : D) (x_told : D) : Res (D × (List D)) :=
  ob (ixD x_sheet (.int 0)) fun t2 => ob (ixD x_sheet (.int 1)) fun t3 => ob (catD t2 t3) fun t1 => ob (ixD x_sheet (.int 2)) fun t4 => ob (rngD (.int 0) (.int 30)) fun ds7 => rb (forL (Z := (D × (List D) × D)) (R := (D × (List D))) ds7 ((.int 0), x_store, t4) fun z6 d5 => (ob (ixD x_told z6.1) fun t9 => ob (neD t9 z6.2.2) fun t8 => if t8 = true then .ok (.rt ((.bl false), z6.2.1)) else (ob (ixD x_sheet (.int 3)) fun t12 => ob (ixD t12 z6.1) fun t11 => ob (eqD t11 (.lst [])) fun t10 => if t10 = true then .ok (.rt ((.bl true), z6.2.1)) else ob (ixD x_sheet (.int 3)) fun t15 => ob (ixD t15 z6.1) fun t14 => ob (ixD x_sheet (.int 3)) fun t19 => ob (ixD t19 z6.1) fun t18 => ob (lenD t18) fun t17 => rb (m__law_take z6.2.1 t17) fun r16 => ob (ixD t14 r16.1) fun t13 => ob (un2 t13) fun p20 => ob (asLst (.lst t1)) fun t23 => ob (indexD (.lst t1) p20.1) fun t22 => rb (m__law_flip z6.2.2 t22) fun r21 => .ok (.nx (p20.2, r16.2, r21))))) fun o => Fl.on o (fun z6 => .ok ((.bl true), z6.2.1)) (fun r => .ok r)
abbrev s__law_walked : Stmt := topS 13
theorem sc__law_walked : FnScope ["store", "sheet", "told", "names", "signs", "here", "k", "name"] ["store", "sheet", "told"] (defScope s__law_walked) := ⟨rfl, rfl, rfl, by decide +kernel, rfl, by decide +kernel, by decide +kernel⟩
def m_law (x_script : D) : Res D :=
  ob (lenD x_script) fun t6 => ob (maxD t6 (.int 3)) fun t5 => ob (minD t5 (.int 12)) fun t4 => ob (rngD (.int 0) t4) fun ds3 => rb (forL (Z := Unit) (R := D) ds3 () fun z2 d1 => rb (m__law_cell x_script d1) fun r8 => rb (m__law_store r8) fun r7 => rb (m__law_take r7 (.int 8)) fun r11 => ob (ixD (.lst [(.int 12), (.int 12), (.int 12), (.int 12), (.int 12), (.int 12), (.int 12), (.int 40)]) r11.1) fun t10 => rb (m__law_sheet r11.2 t10) fun r9 => rb (m__law_sheet_copy r9.1) fun r12 => rb (m__law_signs r9.1) fun r13 => rb (m_signs_of r12) fun r14 => (ob (isK (.lst r14) .list) fun t17 => ob (asB (.bl t17)) fun t16 => rb (if (!t16) = true then .ok (true, r9.2) else ob (neD (.lst r14) r13) fun t19 => rb (if t19 = true then .ok (true, r9.2) else rb (m__law_walked r9.2 r9.1 (.lst r14)) fun r22 => if chk (.f r22.1) [some (.l r22.2), none, none] = true then ob (asB r22.1) fun t20 => .ok ((!t20), r22.2) else .fail : Res (Bool × (List D))) fun p18 => .ok (p18.1, p18.2) : Res (Bool × (List D))) fun p15 => if p15.1 = true then .ok (.rt (.bl false)) else ob (asLst (.lst r14)) fun ds25 => rb (forL (Z := Unit) (R := D) ds25 () fun z24 d23 => (ob (nnD d23 .non) fun t27 => rb (if t27 = true then ob (isK d23 .str) fun t29 => ob (asB (.bl t29)) fun t28 => .ok ((!t28), ()) else .ok (false, ()) : Res (Bool × Unit)) fun p26 => if p26.1 = true then .ok (.rt (.bl false)) else .ok (.nx ()))) fun o => Fl.on o (fun z24 => ob (apL (r14).reverse .non) fun t31 => (rb (m_signs_of r12) fun r34 => ob (neD (.lst r34) r13) fun t33 => rb (if t33 = true then .ok (true, ()) else ob (neD r12 r9.1) fun t35 => .ok (t35, ()) : Res (Bool × Unit)) fun p32 => if p32.1 = true then .ok (.rt (.bl false)) else .ok (.nx ()))) (fun r => .ok (.rt r)))) fun o => Fl.on o (fun z2 => .ok (.bl true)) (fun r => .ok r)
abbrev s_law : Stmt := topS 14
theorem sc_law : FnScope ["script", "at", "store", "sheet", "handed", "due", "found", "one"] ["script"] (defScope s_law) := ⟨rfl, rfl, rfl, by decide +kernel, rfl, by decide +kernel, by decide +kernel⟩
structure Tx (K : PySem.W.Frag) (mg : Str → Option Value) where
  a__law_store : Addr
  d__law_store : FuncData
  F__law_store : Fun K "_law_store" "_law_store" s__law_store a__law_store d__law_store
  b__law_store : Binds K d__law_store ["cell"] []
  g__law_store : mg "_law_store" = some (.ref a__law_store)
  a__law_take : Addr
  d__law_take : FuncData
  F__law_take : Fun K "_law_take" "_law_take" s__law_take a__law_take d__law_take
  b__law_take : Binds K d__law_take ["store", "many"] []
  g__law_take : mg "_law_take" = some (.ref a__law_take)
  a__law_some_names : Addr
  d__law_some_names : FuncData
  F__law_some_names : Fun K "_law_some_names" "_law_some_names" s__law_some_names a__law_some_names d__law_some_names
  b__law_some_names : Binds K d__law_some_names ["store", "many"] []
  g__law_some_names : mg "_law_some_names" = some (.ref a__law_some_names)
  a__law_flip : Addr
  d__law_flip : FuncData
  F__law_flip : Fun K "_law_flip" "_law_flip" s__law_flip a__law_flip d__law_flip
  b__law_flip : Binds K d__law_flip ["signs", "at"] []
  g__law_flip : mg "_law_flip" = some (.ref a__law_flip)
  a__law_sheet : Addr
  d__law_sheet : FuncData
  F__law_sheet : Fun K "_law_sheet" "_law_sheet" s__law_sheet a__law_sheet d__law_sheet
  b__law_sheet : Binds K d__law_sheet ["store", "most"] []
  g__law_sheet : mg "_law_sheet" = some (.ref a__law_sheet)
  a__law_sheet_copy : Addr
  d__law_sheet_copy : FuncData
  F__law_sheet_copy : Fun K "_law_sheet_copy" "_law_sheet_copy" s__law_sheet_copy a__law_sheet_copy d__law_sheet_copy
  b__law_sheet_copy : Binds K d__law_sheet_copy ["sheet"] []
  g__law_sheet_copy : mg "_law_sheet_copy" = some (.ref a__law_sheet_copy)
  a__law_signs : Addr
  d__law_signs : FuncData
  F__law_signs : Fun K "_law_signs" "_law_signs" s__law_signs a__law_signs d__law_signs
  b__law_signs : Binds K d__law_signs ["sheet"] []
  g__law_signs : mg "_law_signs" = some (.ref a__law_signs)
  a_behind_turn : Addr
  d_behind_turn : FuncData
  F_behind_turn : Fun K "behind_turn" "behind_turn" s_behind_turn a_behind_turn d_behind_turn
  b_behind_turn : Binds K d_behind_turn ["names", "signs", "name"] []
  g_behind_turn : mg "behind_turn" = some (.ref a_behind_turn)
  a_rows_of : Addr
  d_rows_of : FuncData
  F_rows_of : Fun K "rows_of" "rows_of" s_rows_of a_rows_of d_rows_of
  b_rows_of : Binds K d_rows_of ["names", "first", "nodes"] []
  g_rows_of : mg "rows_of" = some (.ref a_rows_of)
  a_signs_of : Addr
  d_signs_of : FuncData
  F_signs_of : Fun K "signs_of" "signs_of" s_signs_of a_signs_of d_signs_of
  b_signs_of : Binds K d_signs_of ["sheet"] []
  g_signs_of : mg "signs_of" = some (.ref a_signs_of)
  a__law_cell : Addr
  d__law_cell : FuncData
  F__law_cell : Fun K "_law_cell" "_law_cell" s__law_cell a__law_cell d__law_cell
  b__law_cell : Binds K d__law_cell ["script", "k"] []
  g__law_cell : mg "_law_cell" = some (.ref a__law_cell)
  a__law_walked : Addr
  d__law_walked : FuncData
  F__law_walked : Fun K "_law_walked" "_law_walked" s__law_walked a__law_walked d__law_walked
  b__law_walked : Binds K d__law_walked ["store", "sheet", "told"] []
  g__law_walked : mg "_law_walked" = some (.ref a__law_walked)
  a_law : Addr
  d_law : FuncData
  F_law : Fun K "law" "law" s_law a_law d_law
  n_int : mg "int" = none
  n_isinstance : mg "isinstance" = none
  n_len : mg "len" = none
  n_list : mg "list" = none
  n_max : mg "max" = none
  n_min : mg "min" = none
  n_range : mg "range" = none
  n_str : mg "str" = none
section
variable {P : Program} {w : World} {K : PySem.W.Frag} {mg : Str → Option Value} {base : Heap}
theorem ok__law_store (T : Tx K mg) : FnOk P w K mg base CX0 1 T.a__law_store T.d__law_store ["cell"] (spOf (A := D) (R := List D) (fun _ => 0) (fun a => [.f a]) (fun a => m__law_store a) (fun r => .l r) (fun r => [none])) := by
  refine T.F__law_store.ok sc__law_store (fun vs H Q E h => ?_) (fun cdv A outer s H vs Q E hr h => ?_)
  · obtain ⟨a, G, w, _, _, hl, _⟩ := h; exact hl
  · refine ⟨_, (pss_cons (ps_set (i := 1) sc__law_store.nd rfl (by first | exact .inl rfl | exact .inr rfl) pe_int) (pss_cons (ps_if (pt_cmpR op_ge (pv 0) (pe_op op_pow pe_int pe_int) (nomark _)) (pss_one (ps_set (i := 1) sc__law_store.nd rfl (by first | exact .inl rfl | exact .inr rfl) (pv 0))) pss_nil) (pss_one (ps_ret (pe_lst (pa_cons (pv 1) (pa_cons (pe_op op_mod (pv 0) pe_int) (pa_cons pe_int pa_nil)))))))), ?_⟩
    refine fn_body (K := K) [] (fun _ => by show (1 : Nat) ≤ 2; decide) (fun _ => by show ∀ k ∈ ([] : List Nat), k < 1; decide) h (fun F x_cell hec hE hK hpv => ?_)
    skip
    show RS F [] [some (.f x_cell), none] (m__law_store x_cell) _ _ _
    unfold m__law_store
    refine rs_seq ?_
    refine rs_set ?_ rfl (hpv _ (by decide))
    refine rd_int ?_
    refine ⟨_, rfl, (by show (1 : Nat) < 2; decide), ?_⟩
    refine rs_at [some (.f x_cell), some (.f (.int 0))] rfl ?_
    refine rs_seq ?_
    refine rs_join (Z := D) (fun z3 => [some (.f x_cell), some (.f z3)]) _ _ rfl ?_ (fun z3 => ?_)
    · refine rs_if ?_
      refine rt_op2B o_ge ?_
      refine rd_var rfl ?_
      intro _
      refine rd_op2 o_pow ?_
      refine rd_int ?_
      intro _
      refine rd_int ?_
      refine ⟨_, _, _, rfl, rfl, rfl, fun t5 => ?_⟩
      refine ⟨_, _, _, rfl, rfl, rfl, fun t4 => ?_⟩
      refine ⟨_, _, rfl, fun _ => ?_, fun _ => ?_⟩
      · refine rs_set ?_ rfl (hpv _ (by decide))
        refine rd_var rfl ?_
        refine ⟨_, rfl, (by show (1 : Nat) < 2; decide), ?_⟩
        exact ⟨_, rfl, ⟨.inr rfl, ⟨.inr rfl, trivial⟩⟩⟩
      · refine rs_next ?_
        exact ⟨_, rfl, ⟨.inr rfl, ⟨.inr rfl, trivial⟩⟩⟩
    · refine rs_at [some (.f x_cell), some (.f z3)] rfl ?_
      refine rs_ret ?_
      refine rd_lst ?_
      refine ra_cons ?_
      refine rd_var rfl ?_
      intro _
      refine ra_cons ?_
      refine rd_op2 o_mod ?_
      refine rd_var rfl ?_
      intro _
      refine rd_int ?_
      refine ⟨_, _, _, rfl, rfl, rfl, fun t6 => ?_⟩
      intro _
      refine ra_cons ?_
      refine rd_int ?_
      intro _
      refine ra_nil ?_
      refine ⟨[z3, t6, (.int 1)], rfl, (by show (3 : Nat) ≤ 1000; decide), ?_⟩
      refine ⟨_, rfl, ?_⟩
      exact ⟨_, rfl, rfl, trivial⟩
theorem ok__law_take (T : Tx K mg) : FnOk P w K mg base CX0 1 T.a__law_take T.d__law_take ["store", "many"] (spOf (A := (List D) × D) (R := D × (List D)) (fun _ => 0) (fun a => [.l a.1, .f a.2]) (fun a => m__law_take a.1 a.2) (fun r => .f r.1) (fun r => [some (.l r.2), none])) := by
  refine T.F__law_take.ok sc__law_take (fun vs H Q E h => ?_) (fun cdv A outer s H vs Q E hr h => ?_)
  · obtain ⟨a, G, w, _, _, hl, _⟩ := h; exact hl
  · refine ⟨_, (pss_cons (ps_if (pt_cmpR op_gt (pe_ix (ix_anyK (Kf := K) (by rfl)) (pv 0) pe_int (fun _ _ => rfl)) pe_int (nomark _)) (pss_cons (ps_set (i := 3) sc__law_take.nd rfl (by first | exact .inl rfl | exact .inr rfl) (pe_op op_mod (pe_ix (ix_anyK (Kf := K) (by rfl)) (pv 0) pe_int (fun _ _ => rfl)) (pv 1))) (pss_cons (ps_asg (pe_op op_fdiv (pe_ix (ix_anyK (Kf := K) (by rfl)) (pv 0) pe_int (fun _ _ => rfl)) (pv 1)) (pg_sub (pv 0) pe_int set_list)) (pss_one (ps_ret (pv 3))))) pss_nil) (pss_cons (ps_asg (pe_op op_addA (pe_ix (ix_anyK (Kf := K) (by rfl)) (pv 0) pe_int (fun _ _ => rfl)) pe_int) (pg_sub (pv 0) pe_int set_list)) (pss_cons (ps_set (i := 2) sc__law_take.nd rfl (by first | exact .inl rfl | exact .inr rfl) (pe_op op_mod (pe_op op_mul (pe_op op_addA (pe_ix (ix_anyK (Kf := K) (by rfl)) (pv 0) pe_int (fun _ _ => rfl)) (pe_op op_mul pe_int (pe_ix (ix_anyK (Kf := K) (by rfl)) (pv 0) pe_int (fun _ _ => rfl)))) pe_int) pe_int)) (pss_cons (ps_set (i := 2) sc__law_take.nd rfl (by first | exact .inl rfl | exact .inr rfl) (pe_op op_mod (pe_op op_mul (pv 2) (pv 2)) pe_int)) (pss_cons (ps_set (i := 2) sc__law_take.nd rfl (by first | exact .inl rfl | exact .inr rfl) (pe_op op_mod (pe_op op_mul (pe_op op_addA (pv 2) (pe_op op_mul pe_int (pe_ix (ix_anyK (Kf := K) (by rfl)) (pv 0) pe_int (fun _ _ => rfl)))) pe_int) pe_int)) (pss_one (ps_ret (pe_op op_mod (pe_op op_fdiv (pv 2) pe_int) (pv 1))))))))), ?_⟩
    refine fn_body (K := K) [0] (fun _ => by show (2 : Nat) ≤ 4; decide) (fun _ => by show ∀ k ∈ ([0] : List Nat), k < 2; decide) h (fun F a hec hE hK hpv => ?_)
    obtain ⟨x_store, x_many⟩ := a
    show RS F [] [some (.l x_store), some (.f x_many), none, none] (m__law_take x_store x_many) _ _ _
    unfold m__law_take
    refine rs_seq ?_
    refine rs_if ?_
    refine rt_op2B o_gt ?_
    refine rd_op2 o_ix ?_
    refine rd_ali rfl ?_
    intro _
    refine rd_int ?_
    refine ⟨_, _, _, rfl, rfl, rfl, fun t2 => ?_⟩
    intro _
    refine rd_int ?_
    refine ⟨_, _, _, rfl, rfl, rfl, fun t1 => ?_⟩
    refine ⟨_, _, rfl, fun _ => ?_, fun _ => ?_⟩
    · refine rs_seq ?_
      refine rs_set ?_ rfl (hpv _ (by decide))
      refine rd_op2 o_mod ?_
      refine rd_op2 o_ix ?_
      refine rd_ali rfl ?_
      intro _
      refine rd_int ?_
      refine ⟨_, _, _, rfl, rfl, rfl, fun t4 => ?_⟩
      intro _
      refine rd_var rfl ?_
      refine ⟨_, _, _, rfl, rfl, rfl, fun t3 => ?_⟩
      refine ⟨_, rfl, (by show (3 : Nat) < 4; decide), ?_⟩
      refine rs_at [some (.l x_store), some (.f x_many), none, some (.f t3)] rfl ?_
      refine rs_seq ?_
      refine rs_setL ?_
      refine rd_op2 o_fdiv ?_
      refine rd_op2 o_ix ?_
      refine rd_ali rfl ?_
      intro _
      refine rd_int ?_
      refine ⟨_, _, _, rfl, rfl, rfl, fun t7 => ?_⟩
      intro _
      refine rd_var rfl ?_
      refine ⟨_, _, _, rfl, rfl, rfl, fun t6 => ?_⟩
      refine ⟨_, rfl, fun _ => ?_⟩
      refine rd_ali rfl ?_
      refine ⟨0, rfl, fun _ => ?_⟩
      refine rd_int ?_
      refine ⟨_, _, _, rfl, rfl, rfl, fun t5 => ?_⟩
      refine rs_at [some (.l t5), some (.f x_many), none, some (.f t3)] rfl ?_
      refine rs_ret ?_
      refine rd_var rfl ?_
      refine ⟨_, rfl, ?_⟩
      exact ⟨_, rfl, rfl, ⟨rfl, by decide, trivial⟩⟩
    · refine rs_next ?_
      refine rs_at [some (.l x_store), some (.f x_many), none, none] rfl ?_
      refine rs_seq ?_
      refine rs_setL ?_
      refine rd_op2 o_add ?_
      refine rd_op2 o_ix ?_
      refine rd_ali rfl ?_
      intro _
      refine rd_int ?_
      refine ⟨_, _, _, rfl, rfl, rfl, fun t10 => ?_⟩
      intro _
      refine rd_int ?_
      refine ⟨_, _, _, rfl, rfl, rfl, fun t9 => ?_⟩
      refine ⟨_, rfl, fun _ => ?_⟩
      refine rd_ali rfl ?_
      refine ⟨0, rfl, fun _ => ?_⟩
      refine rd_int ?_
      refine ⟨_, _, _, rfl, rfl, rfl, fun t8 => ?_⟩
      refine rs_at [some (.l t8), some (.f x_many), none, none] rfl ?_
      refine rs_seq ?_
      refine rs_set ?_ rfl (hpv _ (by decide))
      refine rd_op2 o_mod ?_
      refine rd_op2 o_mul ?_
      refine rd_op2 o_add ?_
      refine rd_op2 o_ix ?_
      refine rd_ali rfl ?_
      intro _
      refine rd_int ?_
      refine ⟨_, _, _, rfl, rfl, rfl, fun t14 => ?_⟩
      intro _
      refine rd_op2 o_mul ?_
      refine rd_int ?_
      intro _
      refine rd_op2 o_ix ?_
      refine rd_ali rfl ?_
      intro _
      refine rd_int ?_
      refine ⟨_, _, _, rfl, rfl, rfl, fun t16 => ?_⟩
      refine ⟨_, _, _, rfl, rfl, rfl, fun t15 => ?_⟩
      refine ⟨_, _, _, rfl, rfl, rfl, fun t13 => ?_⟩
      intro _
      refine rd_int ?_
      refine ⟨_, _, _, rfl, rfl, rfl, fun t12 => ?_⟩
      intro _
      refine rd_int ?_
      refine ⟨_, _, _, rfl, rfl, rfl, fun t11 => ?_⟩
      refine ⟨_, rfl, (by show (2 : Nat) < 4; decide), ?_⟩
      refine rs_at [some (.l t8), some (.f x_many), some (.f t11), none] rfl ?_
      refine rs_seq ?_
      refine rs_set ?_ rfl (hpv _ (by decide))
      refine rd_op2 o_mod ?_
      refine rd_op2 o_mul ?_
      refine rd_var rfl ?_
      intro _
      refine rd_var rfl ?_
      refine ⟨_, _, _, rfl, rfl, rfl, fun t18 => ?_⟩
      intro _
      refine rd_int ?_
      refine ⟨_, _, _, rfl, rfl, rfl, fun t17 => ?_⟩
      refine ⟨_, rfl, (by show (2 : Nat) < 4; decide), ?_⟩
      refine rs_at [some (.l t8), some (.f x_many), some (.f t17), none] rfl ?_
      refine rs_seq ?_
      refine rs_set ?_ rfl (hpv _ (by decide))
      refine rd_op2 o_mod ?_
      refine rd_op2 o_mul ?_
      refine rd_op2 o_add ?_
      refine rd_var rfl ?_
      intro _
      refine rd_op2 o_mul ?_
      refine rd_int ?_
      intro _
      refine rd_op2 o_ix ?_
      refine rd_ali rfl ?_
      intro _
      refine rd_int ?_
      refine ⟨_, _, _, rfl, rfl, rfl, fun t23 => ?_⟩
      refine ⟨_, _, _, rfl, rfl, rfl, fun t22 => ?_⟩
      refine ⟨_, _, _, rfl, rfl, rfl, fun t21 => ?_⟩
      intro _
      refine rd_int ?_
      refine ⟨_, _, _, rfl, rfl, rfl, fun t20 => ?_⟩
      intro _
      refine rd_int ?_
      refine ⟨_, _, _, rfl, rfl, rfl, fun t19 => ?_⟩
      refine ⟨_, rfl, (by show (2 : Nat) < 4; decide), ?_⟩
      refine rs_at [some (.l t8), some (.f x_many), some (.f t19), none] rfl ?_
      refine rs_ret ?_
      refine rd_op2 o_mod ?_
      refine rd_op2 o_fdiv ?_
      refine rd_var rfl ?_
      intro _
      refine rd_int ?_
      refine ⟨_, _, _, rfl, rfl, rfl, fun t25 => ?_⟩
      intro _
      refine rd_var rfl ?_
      refine ⟨_, _, _, rfl, rfl, rfl, fun t24 => ?_⟩
      refine ⟨_, rfl, ?_⟩
      exact ⟨_, rfl, rfl, ⟨rfl, by decide, trivial⟩⟩
theorem ok__law_some_names (T : Tx K mg) : FnOk P w K mg base CX0 2 T.a__law_some_names T.d__law_some_names ["store", "many"] (spOf (A := (List D) × D) (R := (List D) × (List D)) (fun _ => 0) (fun a => [.l a.1, .f a.2]) (fun a => m__law_some_names a.1 a.2) (fun r => .l r.1) (fun r => [some (.l r.2), none])) := by
  refine T.F__law_some_names.ok sc__law_some_names (fun vs H Q E h => ?_) (fun cdv A outer s H vs Q E hr h => ?_)
  · obtain ⟨a, G, w, _, _, hl, _⟩ := h; exact hl
  · refine ⟨_, (pss_cons (ps_set (i := 2) sc__law_some_names.nd rfl (by first | exact .inl rfl | exact .inr rfl) (pe_lst (pa_cons pe_str (pa_cons pe_str (pa_cons pe_str (pa_cons pe_str (pa_cons pe_str (pa_cons pe_str (pa_cons pe_str (pa_cons pe_str (pa_cons pe_str (pa_cons pe_str (pa_cons pe_str (pa_cons pe_str (pa_cons pe_str (pa_cons pe_str (pa_cons pe_str pa_nil))))))))))))))))) (pss_one (ps_ret (pe_lc (own := [("k", 3)]) rfl (by exact sc__law_some_names.nd) (pi_range1 (by rfl) T.n_range (pa_cons (pv 1) pa_nil)) blk__law_some_names_0 (fun _ _ _ _ _ => (pg_name (i := 3) sc__law_some_names.nd rfl (by first | exact .inl rfl | exact .inr rfl))) (fun _ _ _ _ _ => pts_nil) (fun _ _ _ _ _ => (pe_bmK (Kf := K) (by rfl) PySem.F.plainAttrs_list PySem.F.slot_list_pop PySem.F.type_list_pop mt_popAt (pv 2) (pa_cons (pe_call (ok__law_take T) (hr.mono (by decide)) (by rfl) T.g__law_take T.F__law_take.kp T.b__law_take .nil (show Passes CX0 _ E from pass0) (pa_cons (pv 0) (pa_cons (pe_callB (call_lenK (Kf := K) (by rfl)) (by rfl) T.n_len PySem.boot_len (pa_cons (pv 2) pa_nil)) pa_nil))) pa_nil))))))), ?_⟩
    refine fn_body (K := K) [0] (fun _ => by show (2 : Nat) ≤ 4; decide) (fun _ => by show ∀ k ∈ ([0] : List Nat), k < 2; decide) h (fun F a hec hE hK hpv => ?_)
    obtain ⟨x_store, x_many⟩ := a
    show RS F [] [some (.l x_store), some (.f x_many), none, none] (m__law_some_names x_store x_many) _ _ _
    unfold m__law_some_names
    refine rs_seq ?_
    refine rs_set ?_ rfl (hpv _ (by decide))
    refine rd_lst ?_
    refine ra_cons ?_
    refine rd_str e_q0 ?_
    intro _
    refine ra_cons ?_
    refine rd_str e_q1 ?_
    intro _
    refine ra_cons ?_
    refine rd_str e_q2 ?_
    intro _
    refine ra_cons ?_
    refine rd_str e_q3 ?_
    intro _
    refine ra_cons ?_
    refine rd_str e_q4 ?_
    intro _
    refine ra_cons ?_
    refine rd_str e_q5 ?_
    intro _
    refine ra_cons ?_
    refine rd_str e_q6 ?_
    intro _
    refine ra_cons ?_
    refine rd_str e_q7 ?_
    intro _
    refine ra_cons ?_
    refine rd_str e_q8 ?_
    intro _
    refine ra_cons ?_
    refine rd_str e_q9 ?_
    intro _
    refine ra_cons ?_
    refine rd_str e_q10 ?_
    intro _
    refine ra_cons ?_
    refine rd_str e_q11 ?_
    intro _
    refine ra_cons ?_
    refine rd_str e_q12 ?_
    intro _
    refine ra_cons ?_
    refine rd_str e_q13 ?_
    intro _
    refine ra_cons ?_
    refine rd_str e_q14 ?_
    intro _
    refine ra_nil ?_
    refine ⟨[(.str q0), (.str q1), (.str q2), (.str q3), (.str q4), (.str q5), (.str q6), (.str q7), (.str q8), (.str q9), (.str q10), (.str q11), (.str q12), (.str q13), (.str q14)], rfl, (by show (15 : Nat) ≤ 1000; decide), ?_⟩
    refine ⟨_, rfl, (by show (2 : Nat) < 4; decide), ?_⟩
    refine rs_at [some (.l x_store), some (.f x_many), some (.l [(.str q0), (.str q1), (.str q2), (.str q3), (.str q4), (.str q5), (.str q6), (.str q7), (.str q8), (.str q9), (.str q10), (.str q11), (.str q12), (.str q13), (.str q14)]), none] rfl ?_
    refine rs_ret ?_
    refine rd_lc (Z := ((List D) × (List D))) [3] (fun i hi => hi) (all1 (hpv _ (by decide))) ?_
    refine ri_range1 ?_
    refine rd_var rfl ?_
    refine ⟨_, _, rfl, rfl, fun ds4 => ?_⟩
    refine ⟨fun z2 => [some (.l z2.2), some (.f x_many), some (.l z2.1), none], ([(.str q0), (.str q1), (.str q2), (.str q3), (.str q4), (.str q5), (.str q6), (.str q7), (.str q8), (.str q9), (.str q10), (.str q11), (.str q12), (.str q13), (.str q14)], x_store), _, _, rfl, ⟨.inr rfl, ⟨.inr rfl, ⟨.inr rfl, ⟨.inl rfl, trivial⟩⟩⟩⟩, fun _ => (by first | exact trivial | rfl | exact ⟨rfl, rfl⟩), fun _ => (all1 rfl), rfl, fun z2 d1 _ _ => ?_, fun p3 => ?_⟩
    · refine rg_name (by show (3 : Nat) < 4; decide) rfl (hpv _ (by decide)) ?_
      refine rt_true rfl ?_
      refine ⟨_, .ok (none, z2), (if_pos rfl).symm, fun _ => ?_, fun h => by cases h⟩
      refine rd_popAt ?_
      refine rd_ali rfl ?_
      refine ⟨2, _, rfl, rfl, fun _ => ?_⟩
      refine rd_call hec hE ?_
      refine ra_cons ?_
      refine rd_ali rfl ?_
      intro _
      refine ra_cons ?_
      refine rd_cb1 o_len ?_
      refine rd_ali rfl ?_
      refine ⟨_, _, rfl, rfl, fun t7 => ?_⟩
      intro _
      refine ra_nil ?_
      refine ⟨(z2.2, t7), _, rfl, rfl, rfl, fun r6 => ?_⟩
      refine ⟨_, _, _, rfl, rfl, rfl, fun t5 => ?_⟩
      exact ⟨_, _, rfl, rfl, ⟨.inr rfl, ⟨.inr rfl, ⟨.inr rfl, ⟨.inl rfl, trivial⟩⟩⟩⟩⟩
    · refine ⟨_, rfl, ?_⟩
      exact ⟨_, rfl, rfl, ⟨rfl, by decide, trivial⟩⟩
theorem ok__law_flip (T : Tx K mg) : FnOk P w K mg base CX0 1 T.a__law_flip T.d__law_flip ["signs", "at"] (spOf (A := D × D) (R := D) (fun _ => 0) (fun a => [.f a.1, .f a.2]) (fun a => m__law_flip a.1 a.2) (fun r => .f r) (fun r => [none, none])) := by
  refine T.F__law_flip.ok sc__law_flip (fun vs H Q E h => ?_) (fun cdv A outer s H vs Q E hr h => ?_)
  · obtain ⟨a, G, w, _, _, hl, _⟩ := h; exact hl
  · refine ⟨_, (pss_one (ps_ret (pe_op op_addA (pe_op op_addA (pe_slice sl_str (pv 0) po_none (po_some (pv 1))) (pe_ix (ix_anyK (Kf := K) (by rfl)) pe_str (pe_callTy call_intA (by rfl) T.n_int PyProof.Rows.boot_int (pa_cons (pe_ix (ix_anyK (Kf := K) (by rfl)) (pv 0) (pv 1) (fun _ _ => rfl)) pa_nil)) (fun _ _ => rfl))) (pe_slice sl_str (pv 0) (po_some (pe_op op_addA (pv 1) pe_int)) po_none)))), ?_⟩
    refine fn_body (K := K) [] (fun _ => by show (2 : Nat) ≤ 2; decide) (fun _ => by show ∀ k ∈ ([] : List Nat), k < 2; decide) h (fun F a hec hE hK hpv => ?_)
    obtain ⟨x_signs, x_at⟩ := a
    show RS F [] [some (.f x_signs), some (.f x_at)] (m__law_flip x_signs x_at) _ _ _
    unfold m__law_flip
    refine rs_ret ?_
    refine rd_op2 o_add ?_
    refine rd_op2 o_add ?_
    refine rd_slS ?_
    refine rd_var rfl ?_
    intro _
    refine ro_none ?_
    refine ro_some ?_
    refine rd_var rfl ?_
    refine ⟨_, _, rfl, rfl, fun t4 => ?_⟩
    refine ⟨_, _, rfl, rfl, fun t3 => ?_⟩
    intro _
    refine rd_op2 o_ix ?_
    refine rd_str e_q15 ?_
    intro _
    refine rd_cb1 o_int ?_
    refine rd_op2 o_ix ?_
    refine rd_var rfl ?_
    intro _
    refine rd_var rfl ?_
    refine ⟨_, _, _, rfl, rfl, rfl, fun t7 => ?_⟩
    refine ⟨_, _, rfl, rfl, fun t6 => ?_⟩
    refine ⟨_, _, _, rfl, rfl, rfl, fun t5 => ?_⟩
    refine ⟨_, _, _, rfl, rfl, rfl, fun t2 => ?_⟩
    intro _
    refine rd_slS ?_
    refine rd_var rfl ?_
    intro _
    refine ro_some ?_
    refine rd_op2 o_add ?_
    refine rd_var rfl ?_
    intro _
    refine rd_int ?_
    refine ⟨_, _, _, rfl, rfl, rfl, fun t10 => ?_⟩
    refine ⟨_, _, rfl, rfl, fun t9 => ?_⟩
    refine ro_none ?_
    refine ⟨_, _, rfl, rfl, fun t8 => ?_⟩
    refine ⟨_, _, _, rfl, rfl, rfl, fun t1 => ?_⟩
    refine ⟨_, rfl, ?_⟩
    exact ⟨_, rfl, rfl, trivial⟩
theorem ok__law_sheet (T : Tx K mg) : FnOk P w K mg base CX0 3 T.a__law_sheet T.d__law_sheet ["store", "most"] (spOf (A := (List D) × D) (R := D × (List D)) (fun _ => 0) (fun a => [.l a.1, .f a.2]) (fun a => m__law_sheet a.1 a.2) (fun r => .f r.1) (fun r => [some (.l r.2), none])) := by
  refine T.F__law_sheet.ok sc__law_sheet (fun vs H Q E h => ?_) (fun cdv A outer s H vs Q E hr h => ?_)
  · obtain ⟨a, G, w, _, _, hl, _⟩ := h; exact hl
  · refine ⟨_, (pss_cons (ps_set (i := 2) sc__law_sheet.nd rfl (by first | exact .inl rfl | exact .inr rfl) (pe_call (ok__law_take T) (hr.mono (by decide)) (by rfl) T.g__law_take T.F__law_take.kp T.b__law_take .nil (show Passes CX0 _ E from pass0) (pa_cons (pv 0) (pa_cons pe_int pa_nil)))) (pss_cons (ps_set (i := 3) sc__law_sheet.nd rfl (by first | exact .inl rfl | exact .inr rfl) (pe_op op_addA pe_int (pe_call (ok__law_take T) (hr.mono (by decide)) (by rfl) T.g__law_take T.F__law_take.kp T.b__law_take .nil (show Passes CX0 _ E from pass0) (pa_cons (pv 0) (pa_cons (pe_ix (ix_anyK (Kf := K) (by rfl)) (pe_lst (pa_cons pe_int (pa_cons pe_int (pa_cons pe_int (pa_cons pe_int pa_nil))))) (pe_call (ok__law_take T) (hr.mono (by decide)) (by rfl) T.g__law_take T.F__law_take.kp T.b__law_take .nil (show Passes CX0 _ E from pass0) (pa_cons (pv 0) (pa_cons pe_int pa_nil))) (fun _ _ => rfl)) pa_nil))))) (pss_cons (ps_set (i := 4) sc__law_sheet.nd rfl (by first | exact .inl rfl | exact .inr rfl) (pe_call (ok__law_some_names T) (hr.mono (by decide)) (by rfl) T.g__law_some_names T.F__law_some_names.kp T.b__law_some_names .nil (show Passes CX0 _ E from pass0) (pa_cons (pv 0) (pa_cons (pe_op op_addA (pv 2) (pv 3)) pa_nil)))) (pss_cons (ps_set (i := 5) sc__law_sheet.nd rfl (by first | exact .inl rfl | exact .inr rfl) (pe_lst (pa_cons (pe_joinK (Kf := K) (by rfl) pe_str (pe_lc (own := [("name", 13)]) rfl (by exact sc__law_sheet.nd) (pi_listK (Kf := K) (by rfl) (pv 4)) blk__law_sheet_4 (fun _ _ _ _ _ => (pg_name (i := 13) sc__law_sheet.nd rfl (by first | exact .inl rfl | exact .inr rfl))) (fun _ _ _ _ _ => pts_nil) (fun _ _ _ _ _ => (pe_ix (ix_anyK (Kf := K) (by rfl)) pe_str (pe_call (ok__law_take T) (hr.mono (by decide)) (by rfl) T.g__law_take T.F__law_take.kp T.b__law_take .nil (show Passes CX0 _ E from pass0) (pa_cons (pv 0) (pa_cons pe_int pa_nil))) (fun _ _ => rfl))))) pa_nil))) (pss_cons (ps_set (i := 6) sc__law_sheet.nd rfl (by first | exact .inl rfl | exact .inr rfl) (pe_lst (pa_cons (pe_lst pa_nil) pa_nil))) (pss_cons (ps_for PassesOwn.never rfl (pi_range1 (by rfl) T.n_range (pa_cons (pe_call (ok__law_take T) (hr.mono (by decide)) (by rfl) T.g__law_take T.F__law_take.kp T.b__law_take .nil (show Passes CX0 _ E from pass0) (pa_cons (pv 0) (pa_cons (pv 1) pa_nil))) pa_nil)) (pg_name (i := 7) sc__law_sheet.nd rfl (by first | exact .inl rfl | exact .inr rfl)) (pss_cons (ps_set (i := 8) sc__law_sheet.nd rfl (by first | exact .inl rfl | exact .inr rfl) (pe_call (ok__law_take T) (hr.mono (by decide)) (by rfl) T.g__law_take T.F__law_take.kp T.b__law_take .nil (show Passes CX0 _ E from pass0) (pa_cons (pv 0) (pa_cons (pe_callB (call_lenK (Kf := K) (by rfl)) (by rfl) T.n_len PySem.boot_len (pa_cons (pv 6) pa_nil)) pa_nil)))) (pss_cons (ps_setLc (i := 9) (own := [("at", 10)]) rfl sc__law_sheet.nd rfl (by rfl) (by rfl) (pi_range1 (by rfl) T.n_range (pa_cons (pe_callB (call_lenK (Kf := K) (by rfl)) (by rfl) T.n_len PySem.boot_len (pa_cons (pv 4) pa_nil)) pa_nil)) blk__law_sheet_2 (fun _ _ _ _ _ => (pg_name (i := 10) sc__law_sheet.nd rfl (by first | exact .inl rfl | exact .inr rfl))) (fun _ _ _ _ _ => (pts_one (pt_cmpR (op_notInK (Kf := K) (by rfl)) (pe_ix (ix_anyK (Kf := K) (by rfl)) (pv 4) (pv 10) (fun _ _ => rfl)) (pe_lc (own := [("name", 13), ("to", 12)]) rfl (by exact sc__law_sheet.nd) (pi_listK (Kf := K) (by rfl) (pe_ix (ix_anyK (Kf := K) (by rfl)) (pv 6) (pv 8) (fun _ _ => rfl))) (by exact blk__law_sheet_3) (fun _ _ _ _ _ => (pg_tupK (Kf := K) (n := 2) (by rfl) rfl (pgs_cons (pg_name (i := 13) sc__law_sheet.nd rfl (by first | exact .inl rfl | exact .inr rfl)) (pgs_cons (pg_name (i := 12) sc__law_sheet.nd rfl (by first | exact .inl rfl | exact .inr rfl)) pgs_nil)))) (fun _ _ _ _ _ => pts_nil) (fun _ _ _ _ _ => (pv 13))) rfl))) (fun _ _ _ _ _ => (pv 10))) (pss_one (ps_if (pt_cmpR (op_neM (hu_64 hr)) (pv 9) (pe_lst pa_nil) (nomark _)) (pss_cons (ps_set (i := 10) sc__law_sheet.nd rfl (by first | exact .inl rfl | exact .inr rfl) (pe_ix (ix_anyK (Kf := K) (by rfl)) (pv 9) (pe_call (ok__law_take T) (hr.mono (by decide)) (by rfl) T.g__law_take T.F__law_take.kp T.b__law_take .nil (show Passes CX0 _ E from pass0) (pa_cons (pv 0) (pa_cons (pe_callB (call_lenK (Kf := K) (by rfl)) (by rfl) T.n_len PySem.boot_len (pa_cons (pv 9) pa_nil)) pa_nil))) (fun _ _ => rfl))) (pss_cons (ps_expr (pe_bmK (Kf := K) (by rfl) PySem.F.plainAttrs_list PySem.F.slot_list_append PySem.F.type_list_append mt_append (pe_ix (ix_anyK (Kf := K) (by rfl)) (pv 6) (pv 8) (fun _ _ => rfl)) (pa_cons (pe_tup (pa_cons (pe_ix (ix_anyK (Kf := K) (by rfl)) (pv 4) (pv 10) (fun _ _ => rfl)) (pa_cons (pe_callB (call_lenK (Kf := K) (by rfl)) (by rfl) T.n_len PySem.boot_len (pa_cons (pv 6) pa_nil)) pa_nil))) pa_nil))) (pss_cons (ps_expr (pe_bmK (Kf := K) (by rfl) PySem.F.plainAttrs_list PySem.F.slot_list_append PySem.F.type_list_append mt_append (pv 5) (pa_cons (pe_call (ok__law_flip T) (hr.mono (by decide)) (by rfl) T.g__law_flip T.F__law_flip.kp T.b__law_flip .nil (show Passes CX0 _ E from pass0) (pa_cons (pe_ix (ix_anyK (Kf := K) (by rfl)) (pv 5) (pv 8) (fun _ _ => rfl)) (pa_cons (pv 10) pa_nil))) pa_nil))) (pss_one (ps_expr (pe_bmK (Kf := K) (by rfl) PySem.F.plainAttrs_list PySem.F.slot_list_append PySem.F.type_list_append mt_append (pv 6) (pa_cons (pe_lst pa_nil) pa_nil))))))) pss_nil))))) (pss_cons (ps_for PassesOwn.never rfl (pi_range1 (by rfl) T.n_range (pa_cons (pe_call (ok__law_take T) (hr.mono (by decide)) (by rfl) T.g__law_take T.F__law_take.kp T.b__law_take .nil (show Passes CX0 _ E from pass0) (pa_cons (pv 0) (pa_cons (pe_op op_mul pe_int (pv 1)) pa_nil))) pa_nil)) (pg_name (i := 7) sc__law_sheet.nd rfl (by first | exact .inl rfl | exact .inr rfl)) (pss_cons (ps_set (i := 8) sc__law_sheet.nd rfl (by first | exact .inl rfl | exact .inr rfl) (pe_call (ok__law_take T) (hr.mono (by decide)) (by rfl) T.g__law_take T.F__law_take.kp T.b__law_take .nil (show Passes CX0 _ E from pass0) (pa_cons (pv 0) (pa_cons (pe_callB (call_lenK (Kf := K) (by rfl)) (by rfl) T.n_len PySem.boot_len (pa_cons (pv 6) pa_nil)) pa_nil)))) (pss_cons (ps_set (i := 10) sc__law_sheet.nd rfl (by first | exact .inl rfl | exact .inr rfl) (pe_call (ok__law_take T) (hr.mono (by decide)) (by rfl) T.g__law_take T.F__law_take.kp T.b__law_take .nil (show Passes CX0 _ E from pass0) (pa_cons (pv 0) (pa_cons (pe_callB (call_lenK (Kf := K) (by rfl)) (by rfl) T.n_len PySem.boot_len (pa_cons (pv 4) pa_nil)) pa_nil)))) (pss_cons (ps_setLc (i := 11) (own := [("to", 12)]) rfl sc__law_sheet.nd rfl (by rfl) (by rfl) (pi_range1 (by rfl) T.n_range (pa_cons (pe_callB (call_lenK (Kf := K) (by rfl)) (by rfl) T.n_len PySem.boot_len (pa_cons (pv 6) pa_nil)) pa_nil)) blk__law_sheet_1 (fun _ _ _ _ _ => (pg_name (i := 12) sc__law_sheet.nd rfl (by first | exact .inl rfl | exact .inr rfl))) (fun _ _ _ _ _ => (pts_one (pt_cmpR (op_eqM (hu_64 hr)) (pe_ix (ix_anyK (Kf := K) (by rfl)) (pv 5) (pv 12) (fun _ _ => rfl)) (pe_call (ok__law_flip T) (hr.mono (by decide)) (by rfl) T.g__law_flip T.F__law_flip.kp T.b__law_flip .nil (show Passes CX0 _ E from pass0) (pa_cons (pe_ix (ix_anyK (Kf := K) (by rfl)) (pv 5) (pv 8) (fun _ _ => rfl)) (pa_cons (pv 10) pa_nil))) (nomark _)))) (fun _ _ _ _ _ => (pv 12))) (pss_one (ps_if (pw_and (pt_cmpR (op_neM (hu_64 hr)) (pv 11) (pe_lst pa_nil) (nomark _)) (pw_and1 (pt_cmpR (op_notInK (Kf := K) (by rfl)) (pe_ix (ix_anyK (Kf := K) (by rfl)) (pv 4) (pv 10) (fun _ _ => rfl)) (pe_lc (own := [("name", 13), ("to", 12)]) rfl (by exact sc__law_sheet.nd) (pi_listK (Kf := K) (by rfl) (pe_ix (ix_anyK (Kf := K) (by rfl)) (pv 6) (pv 8) (fun _ _ => rfl))) blk__law_sheet_0 (fun _ _ _ _ _ => (pg_tupK (Kf := K) (n := 2) (by rfl) rfl (pgs_cons (pg_name (i := 13) sc__law_sheet.nd rfl (by first | exact .inl rfl | exact .inr rfl)) (pgs_cons (pg_name (i := 12) sc__law_sheet.nd rfl (by first | exact .inl rfl | exact .inr rfl)) pgs_nil)))) (fun _ _ _ _ _ => pts_nil) (fun _ _ _ _ _ => (pv 13))) rfl))).pt (pss_one (ps_expr (pe_bmK (Kf := K) (by rfl) PySem.F.plainAttrs_list PySem.F.slot_list_append PySem.F.type_list_append mt_append (pe_ix (ix_anyK (Kf := K) (by rfl)) (pv 6) (pv 8) (fun _ _ => rfl)) (pa_cons (pe_tup (pa_cons (pe_ix (ix_anyK (Kf := K) (by rfl)) (pv 4) (pv 10) (fun _ _ => rfl)) (pa_cons (pe_ix (ix_anyK (Kf := K) (by rfl)) (pv 11) (pe_call (ok__law_take T) (hr.mono (by decide)) (by rfl) T.g__law_take T.F__law_take.kp T.b__law_take .nil (show Passes CX0 _ E from pass0) (pa_cons (pv 0) (pa_cons (pe_callB (call_lenK (Kf := K) (by rfl)) (by rfl) T.n_len PySem.boot_len (pa_cons (pv 11) pa_nil)) pa_nil))) (fun _ _ => rfl)) pa_nil))) pa_nil)))) pss_nil)))))) (pss_cons (ps_for PassesOwn.never rfl (pi_range1 (by rfl) T.n_range (pa_cons (pe_op op_mul (pe_ix (ix_anyK (Kf := K) (by rfl)) (pe_lst (pa_cons pe_int (pa_cons pe_int (pa_cons pe_int (pa_cons pe_int pa_nil))))) (pe_call (ok__law_take T) (hr.mono (by decide)) (by rfl) T.g__law_take T.F__law_take.kp T.b__law_take .nil (show Passes CX0 _ E from pass0) (pa_cons (pv 0) (pa_cons pe_int pa_nil))) (fun _ _ => rfl)) (pe_callTy call_intA (by rfl) T.n_int PyProof.Rows.boot_int (pa_cons (pe_cmpR op_ltA (pe_callB (call_lenK (Kf := K) (by rfl)) (by rfl) T.n_len PySem.boot_len (pa_cons (pv 6) pa_nil)) pe_int (nomark _)) pa_nil))) pa_nil)) (pg_name (i := 7) sc__law_sheet.nd rfl (by first | exact .inl rfl | exact .inr rfl)) (pss_one (ps_expr (pe_bmK (Kf := K) (by rfl) PySem.F.plainAttrs_list PySem.F.slot_list_append PySem.F.type_list_append mt_append (pv 6) (pa_cons (pe_lst (pa_cons (pe_tup (pa_cons (pe_ix (ix_anyK (Kf := K) (by rfl)) (pv 4) (pe_call (ok__law_take T) (hr.mono (by decide)) (by rfl) T.g__law_take T.F__law_take.kp T.b__law_take .nil (show Passes CX0 _ E from pass0) (pa_cons (pv 0) (pa_cons (pe_callB (call_lenK (Kf := K) (by rfl)) (by rfl) T.n_len PySem.boot_len (pa_cons (pv 4) pa_nil)) pa_nil))) (fun _ _ => rfl)) (pa_cons (pe_call (ok__law_take T) (hr.mono (by decide)) (by rfl) T.g__law_take T.F__law_take.kp T.b__law_take .nil (show Passes CX0 _ E from pass0) (pa_cons (pv 0) (pa_cons (pe_op op_addA (pe_callB (call_lenK (Kf := K) (by rfl)) (by rfl) T.n_len PySem.boot_len (pa_cons (pv 6) pa_nil)) pe_int) pa_nil))) pa_nil))) pa_nil)) pa_nil))))) (pss_one (ps_ret (pe_tup (pa_cons (pe_slice (sl_listK (Kf := K) (by rfl)) (pv 4) po_none (po_some (pv 2))) (pa_cons (pe_slice (sl_listK (Kf := K) (by rfl)) (pv 4) (po_some (pv 2)) po_none) (pa_cons (pe_ix (ix_anyK (Kf := K) (by rfl)) (pv 5) pe_int (fun _ _ => rfl)) (pa_cons (pv 6) pa_nil))))))))))))))), ?_⟩
    refine fn_body (K := K) [0] (fun _ => by show (2 : Nat) ≤ 14; decide) (fun _ => by show ∀ k ∈ ([0] : List Nat), k < 2; decide) h (fun F a hec hE hK hpv => ?_)
    obtain ⟨x_store, x_most⟩ := a
    show RS F [] [some (.l x_store), some (.f x_most), none, none, none, none, none, none, none, none, none, none, none, none] (m__law_sheet x_store x_most) _ _ _
    unfold m__law_sheet
    refine rs_seq ?_
    refine rs_set ?_ rfl (hpv _ (by decide))
    refine rd_call hec hE ?_
    refine ra_cons ?_
    refine rd_ali rfl ?_
    intro _
    refine ra_cons ?_
    refine rd_int ?_
    intro _
    refine ra_nil ?_
    refine ⟨(x_store, (.int 5)), _, rfl, rfl, rfl, fun r1 => ?_⟩
    refine ⟨_, rfl, (by show (2 : Nat) < 14; decide), ?_⟩
    refine rs_at [some (.l r1.2), some (.f x_most), some (.f r1.1), none, none, none, none, none, none, none, none, none, none, none] rfl ?_
    refine rs_seq ?_
    refine rs_set ?_ rfl (hpv _ (by decide))
    refine rd_op2 o_add ?_
    refine rd_int ?_
    intro _
    refine rd_call hec hE ?_
    refine ra_cons ?_
    refine rd_ali rfl ?_
    intro _
    refine ra_cons ?_
    refine rd_op2 o_ix ?_
    refine rd_lst ?_
    refine ra_cons ?_
    refine rd_int ?_
    intro _
    refine ra_cons ?_
    refine rd_int ?_
    intro _
    refine ra_cons ?_
    refine rd_int ?_
    intro _
    refine ra_cons ?_
    refine rd_int ?_
    intro _
    refine ra_nil ?_
    refine ⟨[(.int 3), (.int 3), (.int 3), (.int 7)], rfl, (by show (4 : Nat) ≤ 1000; decide), ?_⟩
    intro _
    refine rd_call hec hE ?_
    refine ra_cons ?_
    refine rd_ali rfl ?_
    intro _
    refine ra_cons ?_
    refine rd_int ?_
    intro _
    refine ra_nil ?_
    refine ⟨(r1.2, (.int 4)), _, rfl, rfl, rfl, fun r5 => ?_⟩
    refine ⟨_, _, _, rfl, rfl, rfl, fun t4 => ?_⟩
    intro _
    refine ra_nil ?_
    refine ⟨(r5.2, t4), _, rfl, rfl, rfl, fun r3 => ?_⟩
    refine ⟨_, _, _, rfl, rfl, rfl, fun t2 => ?_⟩
    refine ⟨_, rfl, (by show (3 : Nat) < 14; decide), ?_⟩
    refine rs_at [some (.l r3.2), some (.f x_most), some (.f r1.1), some (.f t2), none, none, none, none, none, none, none, none, none, none] rfl ?_
    refine rs_seq ?_
    refine rs_set ?_ rfl (hpv _ (by decide))
    refine rd_fz ?_
    refine rd_call hec hE ?_
    refine ra_cons ?_
    refine rd_ali rfl ?_
    intro _
    refine ra_cons ?_
    refine rd_op2 o_add ?_
    refine rd_var rfl ?_
    intro _
    refine rd_var rfl ?_
    refine ⟨_, _, _, rfl, rfl, rfl, fun t7 => ?_⟩
    intro _
    refine ra_nil ?_
    refine ⟨(r3.2, t7), _, rfl, rfl, rfl, fun r6 => ?_⟩
    refine ⟨_, rfl, ?_⟩
    refine ⟨_, rfl, (by show (4 : Nat) < 14; decide), ?_⟩
    refine rs_at [some (.l r6.2), some (.f x_most), some (.f r1.1), some (.f t2), some (.f (.lst r6.1)), none, none, none, none, none, none, none, none, none] rfl ?_
    refine rs_seq ?_
    refine rs_set ?_ rfl (hpv _ (by decide))
    refine rd_lst ?_
    refine ra_cons ?_
    refine rd_jn ?_
    refine rd_str e_q16 ?_
    refine ⟨_, _, rfl, rfl, fun t9 _ => ?_⟩
    refine rd_lc (Z := (List D)) [13] (fun i hi => hi) (all1 (hpv _ (by decide))) ?_
    refine ri_lst ?_
    refine rd_var rfl ?_
    refine ⟨_, _, rfl, rfl, fun ds13 _ => ?_⟩
    refine ⟨fun z11 => [some (.l z11), some (.f x_most), some (.f r1.1), some (.f t2), some (.f (.lst r6.1)), none, none, none, none, none, none, none, none, none], r6.2, _, _, rfl, ⟨.inr rfl, ⟨.inr rfl, ⟨.inr rfl, ⟨.inr rfl, ⟨.inr rfl, ⟨.inl rfl, ⟨.inl rfl, ⟨.inl rfl, ⟨.inl rfl, ⟨.inl rfl, ⟨.inl rfl, ⟨.inl rfl, ⟨.inl rfl, ⟨.inl rfl, trivial⟩⟩⟩⟩⟩⟩⟩⟩⟩⟩⟩⟩⟩⟩, fun _ => (by first | exact trivial | rfl | exact ⟨rfl, rfl⟩), fun _ => (all1 rfl), rfl, fun z11 d10 _ _ => ?_, fun p12 => ?_⟩
    · refine rg_name (by show (13 : Nat) < 14; decide) rfl (hpv _ (by decide)) ?_
      refine rt_true rfl ?_
      refine ⟨_, .ok (none, z11), (if_pos rfl).symm, fun _ => ?_, fun h => by cases h⟩
      refine rd_op2 o_ix ?_
      refine rd_str e_q17 ?_
      intro _
      refine rd_call hec hE ?_
      refine ra_cons ?_
      refine rd_ali rfl ?_
      intro _
      refine ra_cons ?_
      refine rd_int ?_
      intro _
      refine ra_nil ?_
      refine ⟨(z11, (.int 2)), _, rfl, rfl, rfl, fun r15 => ?_⟩
      refine ⟨_, _, _, rfl, rfl, rfl, fun t14 => ?_⟩
      exact ⟨_, _, rfl, rfl, ⟨.inr rfl, ⟨.inr rfl, ⟨.inr rfl, ⟨.inr rfl, ⟨.inr rfl, ⟨.inl rfl, ⟨.inl rfl, ⟨.inl rfl, ⟨.inl rfl, ⟨.inl rfl, ⟨.inl rfl, ⟨.inl rfl, ⟨.inl rfl, ⟨.inl rfl, trivial⟩⟩⟩⟩⟩⟩⟩⟩⟩⟩⟩⟩⟩⟩⟩
    · refine ⟨_, _, _, rfl, rfl, rfl, fun t8 => ?_⟩
      intro _
      refine ra_nil ?_
      refine ⟨[t8], rfl, (by show (1 : Nat) ≤ 1000; decide), ?_⟩
      refine ⟨_, rfl, (by show (5 : Nat) < 14; decide), ?_⟩
      refine rs_at [some (.l p12.2), some (.f x_most), some (.f r1.1), some (.f t2), some (.f (.lst r6.1)), some (.l [t8]), none, none, none, none, none, none, none, none] rfl ?_
      refine rs_seq ?_
      refine rs_set ?_ rfl (hpv _ (by decide))
      refine rd_lstO ?_
      refine ra_cons ?_
      refine rd_lst ?_
      refine ra_nil ?_
      refine ⟨[], rfl, (by show (0 : Nat) ≤ 1000; decide), ?_⟩
      intro _
      refine ra_nil ?_
      refine ⟨([[]] : List (List D)).map VL.T.l, rfl, (by show (1 : Nat) ≤ 1000; decide), ?_⟩
      refine ⟨_, rfl, (by show (6 : Nat) < 14; decide), ?_⟩
      refine rs_at [some (.l p12.2), some (.f x_most), some (.f r1.1), some (.f t2), some (.f (.lst r6.1)), some (.l [t8]), some (.ll ((([[]] : List (List D))).map VL.T.l)), none, none, none, none, none, none, none] rfl ?_
      refine rs_seq ?_
      refine rs_forN (Z := ((List D) × (List (List D)) × (List D))) [7] ?_
      refine ri_range1 ?_
      refine rd_call hec hE ?_
      refine ra_cons ?_
      refine rd_ali rfl ?_
      intro _
      refine ra_cons ?_
      refine rd_var rfl ?_
      intro _
      refine ra_nil ?_
      refine ⟨(p12.2, x_most), _, rfl, rfl, rfl, fun r19 => ?_⟩
      refine ⟨_, _, rfl, rfl, fun ds18 => ?_⟩
      refine ⟨fun z17 => [some (.l z17.1), some (.f x_most), some (.f r1.1), some (.f t2), some (.f (.lst r6.1)), some (.l z17.2.2), some (.ll ((z17.2.1).map VL.T.l)), none, none, none, none, none, none, none], _, _, _, rfl, ⟨.inr rfl, ⟨.inr rfl, ⟨.inr rfl, ⟨.inr rfl, ⟨.inr rfl, ⟨.inr rfl, ⟨.inr rfl, ⟨.inl rfl, ⟨.inl rfl, ⟨.inl rfl, ⟨.inl rfl, ⟨.inl rfl, ⟨.inl rfl, ⟨.inl rfl, trivial⟩⟩⟩⟩⟩⟩⟩⟩⟩⟩⟩⟩⟩⟩, fun _ => (by first | exact trivial | rfl | exact ⟨rfl, rfl⟩), fun z17 d16 => ?_, fun z17 => ?_⟩
      · refine rg_name (by show (7 : Nat) < 14; decide) rfl (hpv _ (by decide)) ?_
        refine rs_at [some (.l z17.1), some (.f x_most), some (.f r1.1), some (.f t2), some (.f (.lst r6.1)), some (.l z17.2.2), some (.ll ((z17.2.1).map VL.T.l)), some (.f d16), none, none, none, none, none, none] rfl ?_
        refine rs_seq ?_
        refine rs_set ?_ rfl (hpv _ (by decide))
        refine rd_call hec hE ?_
        refine ra_cons ?_
        refine rd_ali rfl ?_
        intro _
        refine ra_cons ?_
        refine rd_lenN (n := (z17.2.1).length) rfl (by simp) ?_
        intro _
        refine ra_nil ?_
        refine ⟨(z17.1, (.int ((z17.2.1).length : Nat))), _, rfl, rfl, rfl, fun r20 => ?_⟩
        refine ⟨_, rfl, (by show (8 : Nat) < 14; decide), ?_⟩
        refine rs_at [some (.l r20.2), some (.f x_most), some (.f r1.1), some (.f t2), some (.f (.lst r6.1)), some (.l z17.2.2), some (.ll ((z17.2.1).map VL.T.l)), some (.f d16), some (.f r20.1), none, none, none, none, none] rfl ?_
        refine rs_seq ?_
        refine rs_set ?_ rfl (hpv _ (by decide))
        refine rd_fz ?_
        refine rd_lcR [10] (fun i hi => hi) (all1 (hpv _ (by decide))) ?_
        refine ri_range1 ?_
        refine rd_cb1 o_len ?_
        refine rd_var rfl ?_
        refine ⟨_, _, rfl, rfl, fun t24 => ?_⟩
        refine ⟨_, _, rfl, rfl, fun ds23 => ?_⟩
        refine ⟨[some (.l r20.2), some (.f x_most), some (.f r1.1), some (.f t2), some (.f (.lst r6.1)), some (.l z17.2.2), some (.ll ((z17.2.1).map VL.T.l)), some (.f d16), some (.f r20.1), none, none, none, none, none], _, _, rfl, ⟨.inr rfl, ⟨.inr rfl, ⟨.inr rfl, ⟨.inr rfl, ⟨.inr rfl, ⟨.inr rfl, ⟨.inr rfl, ⟨.inr rfl, ⟨.inr rfl, ⟨.inl rfl, ⟨.inl rfl, ⟨.inl rfl, ⟨.inl rfl, ⟨.inl rfl, trivial⟩⟩⟩⟩⟩⟩⟩⟩⟩⟩⟩⟩⟩⟩, (by first | exact trivial | rfl | exact ⟨rfl, rfl⟩), (all1 rfl), rfl, fun d21 _ _ => ?_, fun ys22 => ?_⟩
        · refine rg_name (by show (10 : Nat) < 14; decide) rfl (hpv _ (by decide)) ?_
          refine rt_op2B o_notIn ?_
          refine rd_op2 o_ix ?_
          refine rd_var rfl ?_
          intro _
          refine rd_var rfl ?_
          refine ⟨_, _, _, rfl, rfl, rfl, fun t26 => ?_⟩
          intro _
          refine rd_lcR [13, 12] (fun i hi => hi) (all2 (hpv _ (by decide)) (hpv _ (by decide))) ?_
          refine ri_el (ls0 := z17.2.1) rfl (fun _ => ?_)
          refine rd_var rfl ?_
          refine ⟨_, z17.2.1, _, rfl, rfl, rfl, fun j30 v31 => ?_⟩
          refine ⟨[some (.l r20.2), some (.f x_most), some (.f r1.1), some (.f t2), some (.f (.lst r6.1)), some (.l z17.2.2), some (.ll (((z17.2.1).map VL.T.l).set j30 (.hole v31))), some (.f d16), some (.f r20.1), none, some (.f d21), none, none, none], _, _, rfl, ⟨.inr rfl, ⟨.inr rfl, ⟨.inr rfl, ⟨.inr rfl, ⟨.inr rfl, ⟨.inr rfl, ⟨.inr rfl, ⟨.inr rfl, ⟨.inr rfl, ⟨.inl rfl, ⟨.inr rfl, ⟨.inl rfl, ⟨.inl rfl, ⟨.inl rfl, trivial⟩⟩⟩⟩⟩⟩⟩⟩⟩⟩⟩⟩⟩⟩, (by first | exact trivial | rfl | exact ⟨rfl, rfl⟩), (all2 rfl rfl), rfl, fun d27 _ _ => ?_, fun ys28 => ?_⟩
          · refine rg_n2 ⟨_, rfl, fun p32 => ?_⟩
            refine rgs_cons (by show (13 : Nat) < 14; decide) rfl (hpv _ (by decide)) ?_
            refine rgs_cons (by show (12 : Nat) < 14; decide) rfl (hpv _ (by decide)) ?_
            refine rgs_nil ?_
            refine rt_true rfl ?_
            refine ⟨_, .ok none, (if_pos rfl).symm, fun _ => ?_, fun h => by cases h⟩
            refine rd_var rfl ?_
            exact ⟨_, rfl, rfl, ⟨.inr rfl, ⟨.inr rfl, ⟨.inr rfl, ⟨.inr rfl, ⟨.inr rfl, ⟨.inr rfl, ⟨.inr rfl, ⟨.inr rfl, ⟨.inr rfl, ⟨.inl rfl, ⟨.inr rfl, ⟨.inl rfl, ⟨.inl rfl, ⟨.inl rfl, trivial⟩⟩⟩⟩⟩⟩⟩⟩⟩⟩⟩⟩⟩⟩⟩
          · refine ⟨_, _, _, rfl, rfl, rfl, fun t25 => ?_⟩
            refine ⟨_, _, rfl, fun _ => ?_, fun _ => ⟨rfl, ⟨.inr rfl, ⟨.inr rfl, ⟨.inr rfl, ⟨.inr rfl, ⟨.inr rfl, ⟨.inr rfl, ⟨.inr rfl, ⟨.inr rfl, ⟨.inr rfl, ⟨.inl rfl, ⟨.inl rfl, ⟨.inl rfl, ⟨.inl rfl, ⟨.inl rfl, trivial⟩⟩⟩⟩⟩⟩⟩⟩⟩⟩⟩⟩⟩⟩⟩⟩
            refine rd_var rfl ?_
            exact ⟨_, rfl, rfl, ⟨.inr rfl, ⟨.inr rfl, ⟨.inr rfl, ⟨.inr rfl, ⟨.inr rfl, ⟨.inr rfl, ⟨.inr rfl, ⟨.inr rfl, ⟨.inr rfl, ⟨.inl rfl, ⟨.inl rfl, ⟨.inl rfl, ⟨.inl rfl, ⟨.inl rfl, trivial⟩⟩⟩⟩⟩⟩⟩⟩⟩⟩⟩⟩⟩⟩⟩
        · refine ⟨_, rfl, ?_⟩
          refine ⟨_, rfl, (by show (9 : Nat) < 14; decide), ?_⟩
          refine rs_at [some (.l r20.2), some (.f x_most), some (.f r1.1), some (.f t2), some (.f (.lst r6.1)), some (.l z17.2.2), some (.ll ((z17.2.1).map VL.T.l)), some (.f d16), some (.f r20.1), some (.f (.lst ys22)), none, none, none, none] rfl ?_
          refine rs_if ?_
          refine rt_op2B o_ne ?_
          refine rd_var rfl ?_
          intro _
          refine rd_lst ?_
          refine ra_nil ?_
          refine ⟨[], rfl, (by show (0 : Nat) ≤ 1000; decide), ?_⟩
          refine ⟨_, _, _, rfl, rfl, rfl, fun t33 => ?_⟩
          refine ⟨_, _, rfl, fun _ => ?_, fun _ => ?_⟩
          · refine rs_seq ?_
            refine rs_set ?_ rfl (hpv _ (by decide))
            refine rd_op2 o_ix ?_
            refine rd_var rfl ?_
            intro _
            refine rd_call hec hE ?_
            refine ra_cons ?_
            refine rd_ali rfl ?_
            intro _
            refine ra_cons ?_
            refine rd_cb1 o_len ?_
            refine rd_var rfl ?_
            refine ⟨_, _, rfl, rfl, fun t36 => ?_⟩
            intro _
            refine ra_nil ?_
            refine ⟨(r20.2, t36), _, rfl, rfl, rfl, fun r35 => ?_⟩
            refine ⟨_, _, _, rfl, rfl, rfl, fun t34 => ?_⟩
            refine ⟨_, rfl, (by show (10 : Nat) < 14; decide), ?_⟩
            refine rs_at [some (.l r35.2), some (.f x_most), some (.f r1.1), some (.f t2), some (.f (.lst r6.1)), some (.l z17.2.2), some (.ll ((z17.2.1).map VL.T.l)), some (.f d16), some (.f r20.1), some (.f (.lst ys22)), some (.f t34), none, none, none] rfl ?_
            refine rs_seq ?_
            refine rs_drop ?_
            refine rd_append2 (ls0 := z17.2.1) rfl (fun _ => ?_)
            refine rd_var rfl ?_
            refine ⟨_, z17.2.1, _, rfl, rfl, rfl, fun j37 v38 => ?_⟩
            refine rd_tup ?_
            refine ra_cons ?_
            refine rd_op2 o_ix ?_
            refine rd_var rfl ?_
            intro _
            refine rd_var rfl ?_
            refine ⟨_, _, _, rfl, rfl, rfl, fun t40 => ?_⟩
            intro _
            refine ra_cons ?_
            refine rd_lenN (n := (z17.2.1).length) rfl (by simp) ?_
            intro _
            refine ra_nil ?_
            refine ⟨[t40, (.int ((z17.2.1).length : Nat))], rfl, (by show (2 : Nat) ≤ 1000; decide), ?_⟩
            refine ⟨_, _, rfl, rfl, rfl, fun t39 => ?_⟩
            refine rs_at [some (.l r35.2), some (.f x_most), some (.f r1.1), some (.f t2), some (.f (.lst r6.1)), some (.l z17.2.2), some (.ll ((((z17.2.1).set j37 t39)).map VL.T.l)), some (.f d16), some (.f r20.1), some (.f (.lst ys22)), some (.f t34), none, none, none] rfl ?_
            refine rs_seq ?_
            refine rs_drop ?_
            refine rd_append ?_
            refine rd_ali rfl ?_
            refine ⟨5, _, rfl, rfl, fun _ => ?_⟩
            refine rd_call hec hE ?_
            refine ra_cons ?_
            refine rd_op2 o_ix ?_
            refine rd_ali rfl ?_
            intro _
            refine rd_var rfl ?_
            refine ⟨_, _, _, rfl, rfl, rfl, fun t43 => ?_⟩
            intro _
            refine ra_cons ?_
            refine rd_var rfl ?_
            intro _
            refine ra_nil ?_
            refine ⟨(t43, t34), _, rfl, rfl, rfl, fun r42 => ?_⟩
            refine ⟨_, _, _, rfl, rfl, rfl, fun t41 => ?_⟩
            refine rs_at [some (.l r35.2), some (.f x_most), some (.f r1.1), some (.f t2), some (.f (.lst r6.1)), some (.l t41), some (.ll ((((z17.2.1).set j37 t39)).map VL.T.l)), some (.f d16), some (.f r20.1), some (.f (.lst ys22)), some (.f t34), none, none, none] rfl ?_
            refine rs_drop ?_
            refine rd_appendO ⟨_, rfl⟩ (fun _ => ?_)
            refine rd_lst ?_
            refine ra_nil ?_
            refine ⟨[], rfl, (by show (0 : Nat) ≤ 1000; decide), ?_⟩
            refine ⟨_, _, _, rfl, rfl, rfl, ?_⟩
            rw [mapTl]
            exact ⟨_, rfl, ⟨.inr rfl, ⟨.inr rfl, ⟨.inr rfl, ⟨.inr rfl, ⟨.inr rfl, ⟨.inr rfl, ⟨.inr rfl, ⟨.inl rfl, ⟨.inl rfl, ⟨.inl rfl, ⟨.inl rfl, ⟨.inl rfl, ⟨.inl rfl, ⟨.inl rfl, trivial⟩⟩⟩⟩⟩⟩⟩⟩⟩⟩⟩⟩⟩⟩⟩
          · refine rs_next ?_
            exact ⟨_, rfl, ⟨.inr rfl, ⟨.inr rfl, ⟨.inr rfl, ⟨.inr rfl, ⟨.inr rfl, ⟨.inr rfl, ⟨.inr rfl, ⟨.inl rfl, ⟨.inl rfl, ⟨.inl rfl, ⟨.inl rfl, ⟨.inl rfl, ⟨.inl rfl, ⟨.inl rfl, trivial⟩⟩⟩⟩⟩⟩⟩⟩⟩⟩⟩⟩⟩⟩⟩
      · refine rs_at [some (.l z17.1), some (.f x_most), some (.f r1.1), some (.f t2), some (.f (.lst r6.1)), some (.l z17.2.2), some (.ll ((z17.2.1).map VL.T.l)), none, none, none, none, none, none, none] rfl ?_
        refine rs_seq ?_
        refine rs_forN (Z := ((List D) × (List (List D)))) [7] ?_
        refine ri_range1 ?_
        refine rd_call hec hE ?_
        refine ra_cons ?_
        refine rd_ali rfl ?_
        intro _
        refine ra_cons ?_
        refine rd_op2 o_mul ?_
        refine rd_int ?_
        intro _
        refine rd_var rfl ?_
        refine ⟨_, _, _, rfl, rfl, rfl, fun t49 => ?_⟩
        intro _
        refine ra_nil ?_
        refine ⟨(z17.1, t49), _, rfl, rfl, rfl, fun r48 => ?_⟩
        refine ⟨_, _, rfl, rfl, fun ds47 => ?_⟩
        refine ⟨fun z46 => [some (.l z46.1), some (.f x_most), some (.f r1.1), some (.f t2), some (.f (.lst r6.1)), some (.l z17.2.2), some (.ll ((z46.2).map VL.T.l)), none, none, none, none, none, none, none], _, _, _, rfl, ⟨.inr rfl, ⟨.inr rfl, ⟨.inr rfl, ⟨.inr rfl, ⟨.inr rfl, ⟨.inr rfl, ⟨.inr rfl, ⟨.inl rfl, ⟨.inl rfl, ⟨.inl rfl, ⟨.inl rfl, ⟨.inl rfl, ⟨.inl rfl, ⟨.inl rfl, trivial⟩⟩⟩⟩⟩⟩⟩⟩⟩⟩⟩⟩⟩⟩, fun _ => (by first | exact trivial | rfl | exact ⟨rfl, rfl⟩), fun z46 d45 => ?_, fun z46 => ?_⟩
        · refine rg_name (by show (7 : Nat) < 14; decide) rfl (hpv _ (by decide)) ?_
          refine rs_at [some (.l z46.1), some (.f x_most), some (.f r1.1), some (.f t2), some (.f (.lst r6.1)), some (.l z17.2.2), some (.ll ((z46.2).map VL.T.l)), some (.f d45), none, none, none, none, none, none] rfl ?_
          refine rs_seq ?_
          refine rs_set ?_ rfl (hpv _ (by decide))
          refine rd_call hec hE ?_
          refine ra_cons ?_
          refine rd_ali rfl ?_
          intro _
          refine ra_cons ?_
          refine rd_lenN (n := (z46.2).length) rfl (by simp) ?_
          intro _
          refine ra_nil ?_
          refine ⟨(z46.1, (.int ((z46.2).length : Nat))), _, rfl, rfl, rfl, fun r50 => ?_⟩
          refine ⟨_, rfl, (by show (8 : Nat) < 14; decide), ?_⟩
          refine rs_at [some (.l r50.2), some (.f x_most), some (.f r1.1), some (.f t2), some (.f (.lst r6.1)), some (.l z17.2.2), some (.ll ((z46.2).map VL.T.l)), some (.f d45), some (.f r50.1), none, none, none, none, none] rfl ?_
          refine rs_seq ?_
          refine rs_set ?_ rfl (hpv _ (by decide))
          refine rd_call hec hE ?_
          refine ra_cons ?_
          refine rd_ali rfl ?_
          intro _
          refine ra_cons ?_
          refine rd_cb1 o_len ?_
          refine rd_var rfl ?_
          refine ⟨_, _, rfl, rfl, fun t52 => ?_⟩
          intro _
          refine ra_nil ?_
          refine ⟨(r50.2, t52), _, rfl, rfl, rfl, fun r51 => ?_⟩
          refine ⟨_, rfl, (by show (10 : Nat) < 14; decide), ?_⟩
          refine rs_at [some (.l r51.2), some (.f x_most), some (.f r1.1), some (.f t2), some (.f (.lst r6.1)), some (.l z17.2.2), some (.ll ((z46.2).map VL.T.l)), some (.f d45), some (.f r50.1), none, some (.f r51.1), none, none, none] rfl ?_
          refine rs_seq ?_
          refine rs_set ?_ rfl (hpv _ (by decide))
          refine rd_fz ?_
          refine rd_lcR [12] (fun i hi => hi) (all1 (hpv _ (by decide))) ?_
          refine ri_range1 ?_
          refine rd_lenN (n := (z46.2).length) rfl (by simp) ?_
          refine ⟨_, _, rfl, rfl, fun ds55 => ?_⟩
          refine ⟨[some (.l r51.2), some (.f x_most), some (.f r1.1), some (.f t2), some (.f (.lst r6.1)), some (.l z17.2.2), some (.ll ((z46.2).map VL.T.l)), some (.f d45), some (.f r50.1), none, some (.f r51.1), none, none, none], _, _, rfl, ⟨.inr rfl, ⟨.inr rfl, ⟨.inr rfl, ⟨.inr rfl, ⟨.inr rfl, ⟨.inr rfl, ⟨.inr rfl, ⟨.inr rfl, ⟨.inr rfl, ⟨.inl rfl, ⟨.inr rfl, ⟨.inl rfl, ⟨.inl rfl, ⟨.inl rfl, trivial⟩⟩⟩⟩⟩⟩⟩⟩⟩⟩⟩⟩⟩⟩, (by first | exact trivial | rfl | exact ⟨rfl, rfl⟩), (all1 rfl), rfl, fun d53 _ _ => ?_, fun ys54 => ?_⟩
          · refine rg_name (by show (12 : Nat) < 14; decide) rfl (hpv _ (by decide)) ?_
            refine rt_op2B o_eq ?_
            refine rd_op2 o_ix ?_
            refine rd_ali rfl ?_
            intro _
            refine rd_var rfl ?_
            refine ⟨_, _, _, rfl, rfl, rfl, fun t57 => ?_⟩
            intro _
            refine rd_call hec hE ?_
            refine ra_cons ?_
            refine rd_op2 o_ix ?_
            refine rd_ali rfl ?_
            intro _
            refine rd_var rfl ?_
            refine ⟨_, _, _, rfl, rfl, rfl, fun t59 => ?_⟩
            intro _
            refine ra_cons ?_
            refine rd_var rfl ?_
            intro _
            refine ra_nil ?_
            refine ⟨(t59, r51.1), _, rfl, rfl, rfl, fun r58 => ?_⟩
            refine ⟨_, _, _, rfl, rfl, rfl, fun t56 => ?_⟩
            refine ⟨_, _, rfl, fun _ => ?_, fun _ => ⟨rfl, ⟨.inr rfl, ⟨.inr rfl, ⟨.inr rfl, ⟨.inr rfl, ⟨.inr rfl, ⟨.inr rfl, ⟨.inr rfl, ⟨.inr rfl, ⟨.inr rfl, ⟨.inl rfl, ⟨.inr rfl, ⟨.inl rfl, ⟨.inl rfl, ⟨.inl rfl, trivial⟩⟩⟩⟩⟩⟩⟩⟩⟩⟩⟩⟩⟩⟩⟩⟩
            refine rd_var rfl ?_
            exact ⟨_, rfl, rfl, ⟨.inr rfl, ⟨.inr rfl, ⟨.inr rfl, ⟨.inr rfl, ⟨.inr rfl, ⟨.inr rfl, ⟨.inr rfl, ⟨.inr rfl, ⟨.inr rfl, ⟨.inl rfl, ⟨.inr rfl, ⟨.inl rfl, ⟨.inl rfl, ⟨.inl rfl, trivial⟩⟩⟩⟩⟩⟩⟩⟩⟩⟩⟩⟩⟩⟩⟩
          · refine ⟨_, rfl, ?_⟩
            refine ⟨_, rfl, (by show (11 : Nat) < 14; decide), ?_⟩
            refine rs_at [some (.l r51.2), some (.f x_most), some (.f r1.1), some (.f t2), some (.f (.lst r6.1)), some (.l z17.2.2), some (.ll ((z46.2).map VL.T.l)), some (.f d45), some (.f r50.1), none, some (.f r51.1), some (.f (.lst ys54)), none, none] rfl ?_
            refine rs_if ?_
            refine rt_and (Z := Unit) ?_
            refine rt_op2B o_ne ?_
            refine rd_var rfl ?_
            intro _
            refine rd_lst ?_
            refine ra_nil ?_
            refine ⟨[], rfl, (by show (0 : Nat) ≤ 1000; decide), ?_⟩
            refine ⟨_, _, _, rfl, rfl, rfl, fun t61 => ?_⟩
            refine ⟨fun z => [some (.l r51.2), some (.f x_most), some (.f r1.1), some (.f t2), some (.f (.lst r6.1)), some (.l z17.2.2), some (.ll ((z46.2).map VL.T.l)), some (.f d45), some (.f r50.1), none, some (.f r51.1), some (.f (.lst ys54)), none, none], (), _, _, rfl, ⟨.inr rfl, ⟨.inr rfl, ⟨.inr rfl, ⟨.inr rfl, ⟨.inr rfl, ⟨.inr rfl, ⟨.inr rfl, ⟨.inr rfl, ⟨.inr rfl, ⟨.inl rfl, ⟨.inr rfl, ⟨.inr rfl, ⟨.inl rfl, ⟨.inl rfl, trivial⟩⟩⟩⟩⟩⟩⟩⟩⟩⟩⟩⟩⟩⟩, fun _ => ?_, fun p60 => ?_⟩
            · refine rt_op2B o_notIn ?_
              refine rd_op2 o_ix ?_
              refine rd_var rfl ?_
              intro _
              refine rd_var rfl ?_
              refine ⟨_, _, _, rfl, rfl, rfl, fun t63 => ?_⟩
              intro _
              refine rd_lcR [13, 12] (fun i hi => hi) (all2 (hpv _ (by decide)) (hpv _ (by decide))) ?_
              refine ri_el (ls0 := z46.2) rfl (fun _ => ?_)
              refine rd_var rfl ?_
              refine ⟨_, z46.2, _, rfl, rfl, rfl, fun j67 v68 => ?_⟩
              refine ⟨[some (.l r51.2), some (.f x_most), some (.f r1.1), some (.f t2), some (.f (.lst r6.1)), some (.l z17.2.2), some (.ll (((z46.2).map VL.T.l).set j67 (.hole v68))), some (.f d45), some (.f r50.1), none, some (.f r51.1), some (.f (.lst ys54)), none, none], _, _, rfl, ⟨.inr rfl, ⟨.inr rfl, ⟨.inr rfl, ⟨.inr rfl, ⟨.inr rfl, ⟨.inr rfl, ⟨.inr rfl, ⟨.inr rfl, ⟨.inr rfl, ⟨.inl rfl, ⟨.inr rfl, ⟨.inr rfl, ⟨.inl rfl, ⟨.inl rfl, trivial⟩⟩⟩⟩⟩⟩⟩⟩⟩⟩⟩⟩⟩⟩, (by first | exact trivial | rfl | exact ⟨rfl, rfl⟩), (all2 rfl rfl), rfl, fun d64 _ _ => ?_, fun ys65 => ?_⟩
              · refine rg_n2 ⟨_, rfl, fun p69 => ?_⟩
                refine rgs_cons (by show (13 : Nat) < 14; decide) rfl (hpv _ (by decide)) ?_
                refine rgs_cons (by show (12 : Nat) < 14; decide) rfl (hpv _ (by decide)) ?_
                refine rgs_nil ?_
                refine rt_true rfl ?_
                refine ⟨_, .ok none, (if_pos rfl).symm, fun _ => ?_, fun h => by cases h⟩
                refine rd_var rfl ?_
                exact ⟨_, rfl, rfl, ⟨.inr rfl, ⟨.inr rfl, ⟨.inr rfl, ⟨.inr rfl, ⟨.inr rfl, ⟨.inr rfl, ⟨.inr rfl, ⟨.inr rfl, ⟨.inr rfl, ⟨.inl rfl, ⟨.inr rfl, ⟨.inr rfl, ⟨.inl rfl, ⟨.inl rfl, trivial⟩⟩⟩⟩⟩⟩⟩⟩⟩⟩⟩⟩⟩⟩⟩
              · refine ⟨_, _, _, rfl, rfl, rfl, fun t62 => ?_⟩
                exact ⟨_, rfl, ⟨.inr rfl, ⟨.inr rfl, ⟨.inr rfl, ⟨.inr rfl, ⟨.inr rfl, ⟨.inr rfl, ⟨.inr rfl, ⟨.inr rfl, ⟨.inr rfl, ⟨.inl rfl, ⟨.inr rfl, ⟨.inr rfl, ⟨.inl rfl, ⟨.inl rfl, trivial⟩⟩⟩⟩⟩⟩⟩⟩⟩⟩⟩⟩⟩⟩⟩
            · refine ⟨_, _, rfl, fun _ => ?_, fun _ => ?_⟩
              · refine rs_drop ?_
                refine rd_append2 (ls0 := z46.2) rfl (fun _ => ?_)
                refine rd_var rfl ?_
                refine ⟨_, z46.2, _, rfl, rfl, rfl, fun j70 v71 => ?_⟩
                refine rd_tup ?_
                refine ra_cons ?_
                refine rd_op2 o_ix ?_
                refine rd_var rfl ?_
                intro _
                refine rd_var rfl ?_
                refine ⟨_, _, _, rfl, rfl, rfl, fun t73 => ?_⟩
                intro _
                refine ra_cons ?_
                refine rd_op2 o_ix ?_
                refine rd_var rfl ?_
                intro _
                refine rd_call hec hE ?_
                refine ra_cons ?_
                refine rd_ali rfl ?_
                intro _
                refine ra_cons ?_
                refine rd_cb1 o_len ?_
                refine rd_var rfl ?_
                refine ⟨_, _, rfl, rfl, fun t76 => ?_⟩
                intro _
                refine ra_nil ?_
                refine ⟨(r51.2, t76), _, rfl, rfl, rfl, fun r75 => ?_⟩
                refine ⟨_, _, _, rfl, rfl, rfl, fun t74 => ?_⟩
                intro _
                refine ra_nil ?_
                refine ⟨[t73, t74], rfl, (by show (2 : Nat) ≤ 1000; decide), ?_⟩
                refine ⟨_, _, rfl, rfl, rfl, fun t72 => ?_⟩
                exact ⟨_, rfl, ⟨.inr rfl, ⟨.inr rfl, ⟨.inr rfl, ⟨.inr rfl, ⟨.inr rfl, ⟨.inr rfl, ⟨.inr rfl, ⟨.inl rfl, ⟨.inl rfl, ⟨.inl rfl, ⟨.inl rfl, ⟨.inl rfl, ⟨.inl rfl, ⟨.inl rfl, trivial⟩⟩⟩⟩⟩⟩⟩⟩⟩⟩⟩⟩⟩⟩⟩
              · refine rs_next ?_
                exact ⟨_, rfl, ⟨.inr rfl, ⟨.inr rfl, ⟨.inr rfl, ⟨.inr rfl, ⟨.inr rfl, ⟨.inr rfl, ⟨.inr rfl, ⟨.inl rfl, ⟨.inl rfl, ⟨.inl rfl, ⟨.inl rfl, ⟨.inl rfl, ⟨.inl rfl, ⟨.inl rfl, trivial⟩⟩⟩⟩⟩⟩⟩⟩⟩⟩⟩⟩⟩⟩⟩
        · refine rs_at [some (.l z46.1), some (.f x_most), some (.f r1.1), some (.f t2), some (.f (.lst r6.1)), some (.l z17.2.2), some (.ll ((z46.2).map VL.T.l)), none, none, none, none, none, none, none] rfl ?_
          refine rs_seq ?_
          refine rs_forN (Z := ((List (List D)) × (List D))) [7] ?_
          refine ri_range1 ?_
          refine rd_op2 o_mul ?_
          refine rd_op2 o_ix ?_
          refine rd_lst ?_
          refine ra_cons ?_
          refine rd_int ?_
          intro _
          refine ra_cons ?_
          refine rd_int ?_
          intro _
          refine ra_cons ?_
          refine rd_int ?_
          intro _
          refine ra_cons ?_
          refine rd_int ?_
          intro _
          refine ra_nil ?_
          refine ⟨[(.int 0), (.int 0), (.int 1), (.int 2)], rfl, (by show (4 : Nat) ≤ 1000; decide), ?_⟩
          intro _
          refine rd_call hec hE ?_
          refine ra_cons ?_
          refine rd_ali rfl ?_
          intro _
          refine ra_cons ?_
          refine rd_int ?_
          intro _
          refine ra_nil ?_
          refine ⟨(z46.1, (.int 4)), _, rfl, rfl, rfl, fun r82 => ?_⟩
          refine ⟨_, _, _, rfl, rfl, rfl, fun t81 => ?_⟩
          intro _
          refine rd_cb1 o_int ?_
          refine rd_op2B o_lt ?_
          refine rd_lenN (n := (z46.2).length) rfl (by simp) ?_
          intro _
          refine rd_int ?_
          refine ⟨_, _, _, rfl, rfl, rfl, fun t84 => ?_⟩
          refine ⟨_, _, rfl, rfl, fun t83 => ?_⟩
          refine ⟨_, _, _, rfl, rfl, rfl, fun t80 => ?_⟩
          refine ⟨_, _, rfl, rfl, fun ds79 => ?_⟩
          refine ⟨fun z78 => [some (.l z78.2), some (.f x_most), some (.f r1.1), some (.f t2), some (.f (.lst r6.1)), some (.l z17.2.2), some (.ll ((z78.1).map VL.T.l)), none, none, none, none, none, none, none], _, _, _, rfl, ⟨.inr rfl, ⟨.inr rfl, ⟨.inr rfl, ⟨.inr rfl, ⟨.inr rfl, ⟨.inr rfl, ⟨.inr rfl, ⟨.inl rfl, ⟨.inl rfl, ⟨.inl rfl, ⟨.inl rfl, ⟨.inl rfl, ⟨.inl rfl, ⟨.inl rfl, trivial⟩⟩⟩⟩⟩⟩⟩⟩⟩⟩⟩⟩⟩⟩, fun _ => (by first | exact trivial | rfl | exact ⟨rfl, rfl⟩), fun z78 d77 => ?_, fun z78 => ?_⟩
          · refine rg_name (by show (7 : Nat) < 14; decide) rfl (hpv _ (by decide)) ?_
            refine rs_at [some (.l z78.2), some (.f x_most), some (.f r1.1), some (.f t2), some (.f (.lst r6.1)), some (.l z17.2.2), some (.ll ((z78.1).map VL.T.l)), some (.f d77), none, none, none, none, none, none] rfl ?_
            refine rs_drop ?_
            refine rd_appendO ⟨_, rfl⟩ (fun _ => ?_)
            refine rd_lst ?_
            refine ra_cons ?_
            refine rd_tup ?_
            refine ra_cons ?_
            refine rd_op2 o_ix ?_
            refine rd_var rfl ?_
            intro _
            refine rd_call hec hE ?_
            refine ra_cons ?_
            refine rd_ali rfl ?_
            intro _
            refine ra_cons ?_
            refine rd_cb1 o_len ?_
            refine rd_var rfl ?_
            refine ⟨_, _, rfl, rfl, fun t88 => ?_⟩
            intro _
            refine ra_nil ?_
            refine ⟨(z78.2, t88), _, rfl, rfl, rfl, fun r87 => ?_⟩
            refine ⟨_, _, _, rfl, rfl, rfl, fun t86 => ?_⟩
            intro _
            refine ra_cons ?_
            refine rd_call hec hE ?_
            refine ra_cons ?_
            refine rd_ali rfl ?_
            intro _
            refine ra_cons ?_
            refine rd_op2 o_add ?_
            refine rd_lenN (n := (z78.1).length) rfl (by simp) ?_
            intro _
            refine rd_int ?_
            refine ⟨_, _, _, rfl, rfl, rfl, fun t90 => ?_⟩
            intro _
            refine ra_nil ?_
            refine ⟨(r87.2, t90), _, rfl, rfl, rfl, fun r89 => ?_⟩
            intro _
            refine ra_nil ?_
            refine ⟨[t86, r89.1], rfl, (by show (2 : Nat) ≤ 1000; decide), ?_⟩
            intro _
            refine ra_nil ?_
            refine ⟨[(.tup [t86, r89.1])], rfl, (by show (1 : Nat) ≤ 1000; decide), ?_⟩
            refine ⟨_, _, _, rfl, rfl, rfl, ?_⟩
            rw [mapTl]
            exact ⟨_, rfl, ⟨.inr rfl, ⟨.inr rfl, ⟨.inr rfl, ⟨.inr rfl, ⟨.inr rfl, ⟨.inr rfl, ⟨.inr rfl, ⟨.inl rfl, ⟨.inl rfl, ⟨.inl rfl, ⟨.inl rfl, ⟨.inl rfl, ⟨.inl rfl, ⟨.inl rfl, trivial⟩⟩⟩⟩⟩⟩⟩⟩⟩⟩⟩⟩⟩⟩⟩
          · refine rs_at [some (.l z78.2), some (.f x_most), some (.f r1.1), some (.f t2), some (.f (.lst r6.1)), some (.l z17.2.2), some (.ll ((z78.1).map VL.T.l)), none, none, none, none, none, none, none] rfl ?_
            refine rs_ret ?_
            refine rd_tup ?_
            refine ra_cons ?_
            refine rd_fz ?_
            refine rd_slL ?_
            refine rd_var rfl ?_
            intro _
            refine ro_none ?_
            refine ro_some ?_
            refine rd_var rfl ?_
            refine ⟨_, _, rfl, rfl, fun t92 => ?_⟩
            refine ⟨_, _, rfl, rfl, fun t91 => ?_⟩
            refine ⟨_, rfl, ?_⟩
            intro _
            refine ra_cons ?_
            refine rd_fz ?_
            refine rd_slL ?_
            refine rd_var rfl ?_
            intro _
            refine ro_some ?_
            refine rd_var rfl ?_
            refine ⟨_, _, rfl, rfl, fun t94 => ?_⟩
            refine ro_none ?_
            refine ⟨_, _, rfl, rfl, fun t93 => ?_⟩
            refine ⟨_, rfl, ?_⟩
            intro _
            refine ra_cons ?_
            refine rd_op2 o_ix ?_
            refine rd_ali rfl ?_
            intro _
            refine rd_int ?_
            refine ⟨_, _, _, rfl, rfl, rfl, fun t95 => ?_⟩
            intro _
            refine ra_cons ?_
            refine rd_frz rfl ?_
            intro _
            refine ra_nil ?_
            refine ⟨[(.lst t91), (.lst t93), t95, (VL.T.er (.ll ((z78.1).map VL.T.l)))], rfl, (by show (4 : Nat) ≤ 1000; decide), ?_⟩
            refine ⟨_, rfl, ?_⟩
            exact ⟨_, rfl, rfl, ⟨rfl, by decide, trivial⟩⟩
theorem ok__law_sheet_copy (T : Tx K mg) : FnOk P w K mg base CX0 1 T.a__law_sheet_copy T.d__law_sheet_copy ["sheet"] (spOf (A := D) (R := D) (fun _ => 0) (fun a => [.f a]) (fun a => m__law_sheet_copy a) (fun r => .f r) (fun r => [none])) := by
  refine T.F__law_sheet_copy.ok sc__law_sheet_copy (fun vs H Q E h => ?_) (fun cdv A outer s H vs Q E hr h => ?_)
  · obtain ⟨a, G, w, _, _, hl, _⟩ := h; exact hl
  · refine ⟨_, (pss_one (ps_ret (pe_tup (pa_cons (pe_callTy (call_listK (Kf := K) (by rfl)) (by rfl) T.n_list PyProof.Rows.boot_list (pa_cons (pe_ix (ix_anyK (Kf := K) (by rfl)) (pv 0) pe_int (fun _ _ => rfl)) pa_nil)) (pa_cons (pe_callTy (call_listK (Kf := K) (by rfl)) (by rfl) T.n_list PyProof.Rows.boot_list (pa_cons (pe_ix (ix_anyK (Kf := K) (by rfl)) (pv 0) pe_int (fun _ _ => rfl)) pa_nil)) (pa_cons (pe_ix (ix_anyK (Kf := K) (by rfl)) (pv 0) pe_int (fun _ _ => rfl)) (pa_cons (pe_lc (own := [("node", 1)]) rfl (by exact sc__law_sheet_copy.nd) (pi_listK (Kf := K) (by rfl) (pe_ix (ix_anyK (Kf := K) (by rfl)) (pv 0) pe_int (fun _ _ => rfl))) blk__law_sheet_copy_0 (fun _ _ _ _ _ => (pg_name (i := 1) sc__law_sheet_copy.nd rfl (by first | exact .inl rfl | exact .inr rfl))) (fun _ _ _ _ _ => pts_nil) (fun _ _ _ _ _ => (pe_callTy (call_listK (Kf := K) (by rfl)) (by rfl) T.n_list PyProof.Rows.boot_list (pa_cons (pv 1) pa_nil)))) pa_nil))))))), ?_⟩
    refine fn_body (K := K) [] (fun _ => by show (1 : Nat) ≤ 2; decide) (fun _ => by show ∀ k ∈ ([] : List Nat), k < 1; decide) h (fun F x_sheet hec hE hK hpv => ?_)
    skip
    show RS F [] [some (.f x_sheet), none] (m__law_sheet_copy x_sheet) _ _ _
    unfold m__law_sheet_copy
    refine rs_ret ?_
    refine rd_tup ?_
    refine ra_cons ?_
    refine rd_fz ?_
    refine rd_cb1L o_list ?_
    refine rd_op2 o_ix ?_
    refine rd_var rfl ?_
    intro _
    refine rd_int ?_
    refine ⟨_, _, _, rfl, rfl, rfl, fun t2 => ?_⟩
    refine ⟨_, _, rfl, rfl, fun t1 => ?_⟩
    refine ⟨_, rfl, ?_⟩
    intro _
    refine ra_cons ?_
    refine rd_fz ?_
    refine rd_cb1L o_list ?_
    refine rd_op2 o_ix ?_
    refine rd_var rfl ?_
    intro _
    refine rd_int ?_
    refine ⟨_, _, _, rfl, rfl, rfl, fun t4 => ?_⟩
    refine ⟨_, _, rfl, rfl, fun t3 => ?_⟩
    refine ⟨_, rfl, ?_⟩
    intro _
    refine ra_cons ?_
    refine rd_op2 o_ix ?_
    refine rd_var rfl ?_
    intro _
    refine rd_int ?_
    refine ⟨_, _, _, rfl, rfl, rfl, fun t5 => ?_⟩
    intro _
    refine ra_cons ?_
    refine rd_fz ?_
    refine rd_lcR [1] (fun i hi => hi) (all1 (hpv _ (by decide))) ?_
    refine ri_lst ?_
    refine rd_op2 o_ix ?_
    refine rd_var rfl ?_
    intro _
    refine rd_int ?_
    refine ⟨_, _, _, rfl, rfl, rfl, fun t9 => ?_⟩
    refine ⟨_, _, rfl, rfl, fun ds8 _ => ?_⟩
    refine ⟨[some (.f x_sheet), none], _, _, rfl, ⟨.inr rfl, ⟨.inl rfl, trivial⟩⟩, (by first | exact trivial | rfl | exact ⟨rfl, rfl⟩), (all1 rfl), rfl, fun d6 _ _ => ?_, fun ys7 => ?_⟩
    · refine rg_name (by show (1 : Nat) < 2; decide) rfl (hpv _ (by decide)) ?_
      refine rt_true rfl ?_
      refine ⟨_, .ok none, (if_pos rfl).symm, fun _ => ?_, fun h => by cases h⟩
      refine rd_fz ?_
      refine rd_cb1L o_list ?_
      refine rd_var rfl ?_
      refine ⟨_, _, rfl, rfl, fun t10 => ?_⟩
      refine ⟨_, rfl, ?_⟩
      exact ⟨_, rfl, rfl, ⟨.inr rfl, ⟨.inl rfl, trivial⟩⟩⟩
    · refine ⟨_, rfl, ?_⟩
      intro _
      refine ra_nil ?_
      refine ⟨[(.lst t1), (.lst t3), t5, (.lst ys7)], rfl, (by show (4 : Nat) ≤ 1000; decide), ?_⟩
      refine ⟨_, rfl, ?_⟩
      exact ⟨_, rfl, rfl, trivial⟩
theorem ok__law_signs (T : Tx K mg) : FnOk P w K mg base CX0 2 T.a__law_signs T.d__law_signs ["sheet"] (spOf (A := D) (R := D) (fun _ => 0) (fun a => [.f a]) (fun a => m__law_signs a) (fun r => .f r) (fun r => [none])) := by
  refine T.F__law_signs.ok sc__law_signs (fun vs H Q E h => ?_) (fun cdv A outer s H vs Q E hr h => ?_)
  · obtain ⟨a, G, w, _, _, hl, _⟩ := h; exact hl
  · refine ⟨_, (pss_cons (ps_set (i := 1) sc__law_signs.nd rfl (by first | exact .inl rfl | exact .inr rfl) (pe_op op_catR (pe_ix (ix_anyK (Kf := K) (by rfl)) (pv 0) pe_int (fun _ _ => rfl)) (pe_ix (ix_anyK (Kf := K) (by rfl)) (pv 0) pe_int (fun _ _ => rfl)))) (pss_cons (ps_set (i := 2) sc__law_signs.nd rfl (by first | exact .inl rfl | exact .inr rfl) (pe_op op_rep (pe_lst (pa_cons pe_non pa_nil)) (pe_callB (call_lenK (Kf := K) (by rfl)) (by rfl) T.n_len PySem.boot_len (pa_cons (pe_ix (ix_anyK (Kf := K) (by rfl)) (pv 0) pe_int (fun _ _ => rfl)) pa_nil)))) (pss_cons (ps_asg (pe_ix (ix_anyK (Kf := K) (by rfl)) (pv 0) pe_int (fun _ _ => rfl)) (pg_sub (pv 2) pe_int set_list)) (pss_cons (ps_set (i := 3) sc__law_signs.nd rfl (by first | exact .inl rfl | exact .inr rfl) (pe_lst (pa_cons pe_int pa_nil))) (pss_cons (ps_set (i := 4) sc__law_signs.nd rfl (by first | exact .inl rfl | exact .inr rfl) pe_int) (pss_cons (ps_while PassesOwn.never (pt_cmpR op_ltA (pv 4) (pe_callB (call_lenK (Kf := K) (by rfl)) (by rfl) T.n_len PySem.boot_len (pa_cons (pv 3) pa_nil)) (nomark _)) (pss_cons (ps_set (i := 5) sc__law_signs.nd rfl (by first | exact .inl rfl | exact .inr rfl) (pe_ix (ix_anyK (Kf := K) (by rfl)) (pv 3) (pv 4) (fun _ _ => rfl))) (pss_cons (ps_set (i := 4) sc__law_signs.nd rfl (by first | exact .inl rfl | exact .inr rfl) (pe_op op_addA (pv 4) pe_int)) (pss_one (ps_for PassesOwn.never rfl (pi_listK (Kf := K) (by rfl) (pe_ix (ix_anyK (Kf := K) (by rfl)) (pe_ix (ix_anyK (Kf := K) (by rfl)) (pv 0) pe_int (fun _ _ => rfl)) (pv 5) (fun _ _ => rfl))) (pg_tupK (Kf := K) (n := 2) (by rfl) rfl (pgs_cons (pg_name (i := 6) sc__law_signs.nd rfl (by first | exact .inl rfl | exact .inr rfl)) (pgs_cons (pg_name (i := 7) sc__law_signs.nd rfl (by first | exact .inl rfl | exact .inr rfl)) pgs_nil))) (pss_cons (ps_set (i := 8) sc__law_signs.nd rfl (by first | exact .inl rfl | exact .inr rfl) (pe_call (ok__law_flip T) (hr.mono (by decide)) (by rfl) T.g__law_flip T.F__law_flip.kp T.b__law_flip .nil (show Passes CX0 _ E from pass0) (pa_cons (pe_ix (ix_anyK (Kf := K) (by rfl)) (pv 2) (pv 5) (fun _ _ => rfl)) (pa_cons (pe_bmK (Kf := K) (by rfl) PySem.F.plainAttrs_list PySem.F.slot_list_index PySem.F.type_list_index (mt_indexK (Kf := K) (by rfl)) (pv 1) (pa_cons (pv 6) pa_nil)) pa_nil)))) (pss_cons (ps_if (pt_cmpR op_isN (pe_ix (ix_anyK (Kf := K) (by rfl)) (pv 2) (pv 7) (fun _ _ => rfl)) pe_non (nomark _)) (pss_cons (ps_asg (pv 8) (pg_sub (pv 2) (pv 7) set_list)) (pss_one (ps_expr (pe_bmK (Kf := K) (by rfl) PySem.F.plainAttrs_list PySem.F.slot_list_append PySem.F.type_list_append mt_append (pv 3) (pa_cons (pv 7) pa_nil))))) pss_nil) (pss_one (ps_if (pt_cmpR (op_neM (hu_64 hr)) (pe_ix (ix_anyK (Kf := K) (by rfl)) (pv 2) (pv 7) (fun _ _ => rfl)) (pv 8) (nomark _)) (pss_one (ps_ret pe_non)) pss_nil))))))))) (pss_one (ps_ret (pv 2))))))))), ?_⟩
    refine fn_body (K := K) [] (fun _ => by show (1 : Nat) ≤ 9; decide) (fun _ => by show ∀ k ∈ ([] : List Nat), k < 1; decide) h (fun F x_sheet hec hE hK hpv => ?_)
    skip
    show RS F [] [some (.f x_sheet), none, none, none, none, none, none, none, none] (m__law_signs x_sheet) _ _ _
    unfold m__law_signs
    refine rs_seq ?_
    refine rs_set ?_ rfl (hpv _ (by decide))
    refine rd_fz ?_
    refine rd_op2L o_cat ?_
    refine rd_op2 o_ix ?_
    refine rd_var rfl ?_
    intro _
    refine rd_int ?_
    refine ⟨_, _, _, rfl, rfl, rfl, fun t2 => ?_⟩
    intro _
    refine rd_op2 o_ix ?_
    refine rd_var rfl ?_
    intro _
    refine rd_int ?_
    refine ⟨_, _, _, rfl, rfl, rfl, fun t3 => ?_⟩
    refine ⟨_, _, _, rfl, rfl, rfl, fun t1 => ?_⟩
    refine ⟨_, rfl, ?_⟩
    refine ⟨_, rfl, (by show (1 : Nat) < 9; decide), ?_⟩
    refine rs_at [some (.f x_sheet), some (.f (.lst t1)), none, none, none, none, none, none, none] rfl ?_
    refine rs_seq ?_
    refine rs_set ?_ rfl (hpv _ (by decide))
    refine rd_rep ?_
    refine rd_lst ?_
    refine ra_cons ?_
    refine rd_non ?_
    intro _
    refine ra_nil ?_
    refine ⟨[.non], rfl, (by show (1 : Nat) ≤ 1000; decide), ?_⟩
    refine ⟨_, rfl, fun _ => ?_⟩
    refine rd_cb1 o_len ?_
    refine rd_op2 o_ix ?_
    refine rd_var rfl ?_
    intro _
    refine rd_int ?_
    refine ⟨_, _, _, rfl, rfl, rfl, fun t6 => ?_⟩
    refine ⟨_, _, rfl, rfl, fun t5 => ?_⟩
    refine ⟨_, _, rfl, rfl, fun t4 => ?_⟩
    refine ⟨_, rfl, (by show (2 : Nat) < 9; decide), ?_⟩
    refine rs_at [some (.f x_sheet), some (.f (.lst t1)), some (.l t4), none, none, none, none, none, none] rfl ?_
    refine rs_seq ?_
    refine rs_setL ?_
    refine rd_op2 o_ix ?_
    refine rd_var rfl ?_
    intro _
    refine rd_int ?_
    refine ⟨_, _, _, rfl, rfl, rfl, fun t8 => ?_⟩
    refine ⟨_, rfl, fun _ => ?_⟩
    refine rd_ali rfl ?_
    refine ⟨2, rfl, fun _ => ?_⟩
    refine rd_int ?_
    refine ⟨_, _, _, rfl, rfl, rfl, fun t7 => ?_⟩
    refine rs_at [some (.f x_sheet), some (.f (.lst t1)), some (.l t7), none, none, none, none, none, none] rfl ?_
    refine rs_seq ?_
    refine rs_set ?_ rfl (hpv _ (by decide))
    refine rd_lst ?_
    refine ra_cons ?_
    refine rd_int ?_
    intro _
    refine ra_nil ?_
    refine ⟨[(.int 0)], rfl, (by show (1 : Nat) ≤ 1000; decide), ?_⟩
    refine ⟨_, rfl, (by show (3 : Nat) < 9; decide), ?_⟩
    refine rs_at [some (.f x_sheet), some (.f (.lst t1)), some (.l t7), some (.l [(.int 0)]), none, none, none, none, none] rfl ?_
    refine rs_seq ?_
    refine rs_set ?_ rfl (hpv _ (by decide))
    refine rd_int ?_
    refine ⟨_, rfl, (by show (4 : Nat) < 9; decide), ?_⟩
    refine rs_at [some (.f x_sheet), some (.f (.lst t1)), some (.l t7), some (.l [(.int 0)]), some (.f (.int 0)), none, none, none, none] rfl ?_
    refine rs_seq ?_
    refine rs_while FU (fun z9 => [some (.f x_sheet), some (.f (.lst t1)), some (.l z9.2.1), some (.l z9.2.2), some (.f z9.1), none, none, none, none]) _ _ _ _ rfl ⟨.inr rfl, ⟨.inr rfl, ⟨.inr rfl, ⟨.inr rfl, ⟨.inr rfl, ⟨.inl rfl, ⟨.inl rfl, ⟨.inl rfl, ⟨.inl rfl, trivial⟩⟩⟩⟩⟩⟩⟩⟩⟩ (fun z9 => ?_) (fun z9 => ?_) (fun z9 => ?_)
    · refine rt_op2B o_lt ?_
      refine rd_var rfl ?_
      intro _
      refine rd_cb1 o_len ?_
      refine rd_ali rfl ?_
      refine ⟨_, _, rfl, rfl, fun t11 => ?_⟩
      refine ⟨_, _, _, rfl, rfl, rfl, fun t10 => ?_⟩
      exact ⟨rfl, ⟨.inr rfl, ⟨.inr rfl, ⟨.inr rfl, ⟨.inr rfl, ⟨.inr rfl, ⟨.inl rfl, ⟨.inl rfl, ⟨.inl rfl, ⟨.inl rfl, trivial⟩⟩⟩⟩⟩⟩⟩⟩⟩⟩
    · refine rs_seq ?_
      refine rs_set ?_ rfl (hpv _ (by decide))
      refine rd_op2 o_ix ?_
      refine rd_ali rfl ?_
      intro _
      refine rd_var rfl ?_
      refine ⟨_, _, _, rfl, rfl, rfl, fun t12 => ?_⟩
      refine ⟨_, rfl, (by show (5 : Nat) < 9; decide), ?_⟩
      refine rs_at [some (.f x_sheet), some (.f (.lst t1)), some (.l z9.2.1), some (.l z9.2.2), some (.f z9.1), some (.f t12), none, none, none] rfl ?_
      refine rs_seq ?_
      refine rs_set ?_ rfl (hpv _ (by decide))
      refine rd_op2 o_add ?_
      refine rd_var rfl ?_
      intro _
      refine rd_int ?_
      refine ⟨_, _, _, rfl, rfl, rfl, fun t13 => ?_⟩
      refine ⟨_, rfl, (by show (4 : Nat) < 9; decide), ?_⟩
      refine rs_at [some (.f x_sheet), some (.f (.lst t1)), some (.l z9.2.1), some (.l z9.2.2), some (.f t13), some (.f t12), none, none, none] rfl ?_
      refine rs_for (Z := ((List D) × (List D))) (R' := D) [6, 7] ?_
      refine ri_lst ?_
      refine rd_op2 o_ix ?_
      refine rd_op2 o_ix ?_
      refine rd_var rfl ?_
      intro _
      refine rd_int ?_
      refine ⟨_, _, _, rfl, rfl, rfl, fun t18 => ?_⟩
      intro _
      refine rd_var rfl ?_
      refine ⟨_, _, _, rfl, rfl, rfl, fun t17 => ?_⟩
      refine ⟨_, _, rfl, rfl, fun ds16 _ => ?_⟩
      refine ⟨fun z15 => [some (.f x_sheet), some (.f (.lst t1)), some (.l z15.1), some (.l z15.2), some (.f t13), some (.f t12), none, none, none], _, _, _, rfl, ⟨.inr rfl, ⟨.inr rfl, ⟨.inr rfl, ⟨.inr rfl, ⟨.inr rfl, ⟨.inr rfl, ⟨.inl rfl, ⟨.inl rfl, ⟨.inl rfl, trivial⟩⟩⟩⟩⟩⟩⟩⟩⟩, fun _ => (by first | exact trivial | rfl | exact ⟨rfl, rfl⟩), fun z15 d14 => ?_, fun z15 => ?_⟩
      · refine rg_n2 ⟨_, rfl, fun p19 => ?_⟩
        refine rgs_cons (by show (6 : Nat) < 9; decide) rfl (hpv _ (by decide)) ?_
        refine rgs_cons (by show (7 : Nat) < 9; decide) rfl (hpv _ (by decide)) ?_
        refine rgs_nil ?_
        refine rs_at [some (.f x_sheet), some (.f (.lst t1)), some (.l z15.1), some (.l z15.2), some (.f t13), some (.f t12), some (.f p19.1), some (.f p19.2), none] rfl ?_
        refine rs_seq ?_
        refine rs_set ?_ rfl (hpv _ (by decide))
        refine rd_call hec hE ?_
        refine ra_cons ?_
        refine rd_op2 o_ix ?_
        refine rd_ali rfl ?_
        intro _
        refine rd_var rfl ?_
        refine ⟨_, _, _, rfl, rfl, rfl, fun t21 => ?_⟩
        intro _
        refine ra_cons ?_
        refine rd_idx ?_
        refine rd_var rfl ?_
        refine ⟨_, _, rfl, rfl, fun t23 _ => ?_⟩
        refine rd_var rfl ?_
        refine ⟨_, _, _, rfl, rfl, rfl, fun t22 => ?_⟩
        intro _
        refine ra_nil ?_
        refine ⟨(t21, t22), _, rfl, rfl, rfl, fun r20 => ?_⟩
        refine ⟨_, rfl, (by show (8 : Nat) < 9; decide), ?_⟩
        refine rs_at [some (.f x_sheet), some (.f (.lst t1)), some (.l z15.1), some (.l z15.2), some (.f t13), some (.f t12), some (.f p19.1), some (.f p19.2), some (.f r20)] rfl ?_
        refine rs_seq ?_
        refine rs_join (Z := ((List D) × (List D))) (fun z28 => [some (.f x_sheet), some (.f (.lst t1)), some (.l z28.1), some (.l z28.2), some (.f t13), some (.f t12), some (.f p19.1), some (.f p19.2), some (.f r20)]) _ _ rfl ?_ (fun z28 => ?_)
        · refine rs_if ?_
          refine rt_op2B o_isn ?_
          refine rd_op2 o_ix ?_
          refine rd_ali rfl ?_
          intro _
          refine rd_var rfl ?_
          refine ⟨_, _, _, rfl, rfl, rfl, fun t30 => ?_⟩
          intro _
          refine rd_non ?_
          refine ⟨_, _, _, rfl, rfl, rfl, fun t29 => ?_⟩
          refine ⟨_, _, rfl, fun _ => ?_, fun _ => ?_⟩
          · refine rs_seq ?_
            refine rs_setL ?_
            refine rd_var rfl ?_
            refine ⟨_, rfl, fun _ => ?_⟩
            refine rd_ali rfl ?_
            refine ⟨2, rfl, fun _ => ?_⟩
            refine rd_var rfl ?_
            refine ⟨_, _, _, rfl, rfl, rfl, fun t31 => ?_⟩
            refine rs_at [some (.f x_sheet), some (.f (.lst t1)), some (.l t31), some (.l z15.2), some (.f t13), some (.f t12), some (.f p19.1), some (.f p19.2), some (.f r20)] rfl ?_
            refine rs_drop ?_
            refine rd_append ?_
            refine rd_ali rfl ?_
            refine ⟨3, _, rfl, rfl, fun _ => ?_⟩
            refine rd_var rfl ?_
            refine ⟨_, _, _, rfl, rfl, rfl, fun t32 => ?_⟩
            exact ⟨_, rfl, ⟨.inr rfl, ⟨.inr rfl, ⟨.inr rfl, ⟨.inr rfl, ⟨.inr rfl, ⟨.inr rfl, ⟨.inr rfl, ⟨.inr rfl, ⟨.inr rfl, trivial⟩⟩⟩⟩⟩⟩⟩⟩⟩⟩
          · refine rs_next ?_
            exact ⟨_, rfl, ⟨.inr rfl, ⟨.inr rfl, ⟨.inr rfl, ⟨.inr rfl, ⟨.inr rfl, ⟨.inr rfl, ⟨.inr rfl, ⟨.inr rfl, ⟨.inr rfl, trivial⟩⟩⟩⟩⟩⟩⟩⟩⟩⟩
        · refine rs_at [some (.f x_sheet), some (.f (.lst t1)), some (.l z28.1), some (.l z28.2), some (.f t13), some (.f t12), some (.f p19.1), some (.f p19.2), some (.f r20)] rfl ?_
          refine rs_if ?_
          refine rt_op2B o_ne ?_
          refine rd_op2 o_ix ?_
          refine rd_ali rfl ?_
          intro _
          refine rd_var rfl ?_
          refine ⟨_, _, _, rfl, rfl, rfl, fun t34 => ?_⟩
          intro _
          refine rd_var rfl ?_
          refine ⟨_, _, _, rfl, rfl, rfl, fun t33 => ?_⟩
          refine ⟨_, _, rfl, fun _ => ?_, fun _ => ?_⟩
          · refine rs_ret ?_
            refine rd_non ?_
            refine ⟨_, rfl, ?_⟩
            exact ⟨_, rfl, ⟨_, rfl, ⟨_, rfl, rfl, trivial⟩⟩⟩
          · refine rs_next ?_
            exact ⟨_, rfl, ⟨.inr rfl, ⟨.inr rfl, ⟨.inr rfl, ⟨.inr rfl, ⟨.inr rfl, ⟨.inr rfl, ⟨.inl rfl, ⟨.inl rfl, ⟨.inl rfl, trivial⟩⟩⟩⟩⟩⟩⟩⟩⟩⟩
      · exact ⟨_, rfl, ⟨.inr rfl, ⟨.inr rfl, ⟨.inr rfl, ⟨.inr rfl, ⟨.inr rfl, ⟨.inl rfl, ⟨.inl rfl, ⟨.inl rfl, ⟨.inl rfl, trivial⟩⟩⟩⟩⟩⟩⟩⟩⟩⟩
    · refine rs_at [some (.f x_sheet), some (.f (.lst t1)), some (.l z9.2.1), some (.l z9.2.2), some (.f z9.1), none, none, none, none] rfl ?_
      refine rs_ret ?_
      refine rd_frz rfl ?_
      refine ⟨_, rfl, ?_⟩
      exact ⟨_, rfl, rfl, trivial⟩
theorem ok_behind_turn (T : Tx K mg) : FnOk P w K mg base CX0 1 T.a_behind_turn T.d_behind_turn ["names", "signs", "name"] (spOf (A := D × D × D) (R := D) (fun _ => 0) (fun a => [.f a.1, .f a.2.1, .f a.2.2]) (fun a => m_behind_turn a.1 a.2.1 a.2.2) (fun r => .f r) (fun r => [none, none, none])) := by
  refine T.F_behind_turn.ok sc_behind_turn (fun vs H Q E h => ?_) (fun cdv A outer s H vs Q E hr h => ?_)
  · obtain ⟨a, G, w, _, _, hl, _⟩ := h; exact hl
  · refine ⟨_, (pss_cons (ps_set (i := 3) sc_behind_turn.nd rfl (by first | exact .inl rfl | exact .inr rfl) (pe_bmK (Kf := K) (by rfl) PySem.F.plainAttrs_list PySem.F.slot_list_index PySem.F.type_list_index (mt_indexK (Kf := K) (by rfl)) (pv 0) (pa_cons (pv 2) pa_nil))) (pss_one (ps_ret (pe_op op_addA (pe_op op_addA (pe_slice sl_str (pv 1) po_none (po_some (pv 3))) (pe_callTy call_str_int (by rfl) T.n_str PyProof.Rows.boot_str (pa_cons (pe_op op_sub pe_int (pe_callTy call_intA (by rfl) T.n_int PyProof.Rows.boot_int (pa_cons (pe_ix (ix_anyK (Kf := K) (by rfl)) (pv 1) (pv 3) (fun _ _ => rfl)) pa_nil))) pa_nil))) (pe_slice sl_str (pv 1) (po_some (pe_op op_addA (pv 3) pe_int)) po_none))))), ?_⟩
    refine fn_body (K := K) [] (fun _ => by show (3 : Nat) ≤ 4; decide) (fun _ => by show ∀ k ∈ ([] : List Nat), k < 3; decide) h (fun F a hec hE hK hpv => ?_)
    obtain ⟨x_names, x_signs, x_name⟩ := a
    show RS F [] [some (.f x_names), some (.f x_signs), some (.f x_name), none] (m_behind_turn x_names x_signs x_name) _ _ _
    unfold m_behind_turn
    refine rs_seq ?_
    refine rs_set ?_ rfl (hpv _ (by decide))
    refine rd_idx ?_
    refine rd_var rfl ?_
    refine ⟨_, _, rfl, rfl, fun t2 _ => ?_⟩
    refine rd_var rfl ?_
    refine ⟨_, _, _, rfl, rfl, rfl, fun t1 => ?_⟩
    refine ⟨_, rfl, (by show (3 : Nat) < 4; decide), ?_⟩
    refine rs_at [some (.f x_names), some (.f x_signs), some (.f x_name), some (.f t1)] rfl ?_
    refine rs_ret ?_
    refine rd_op2 o_add ?_
    refine rd_op2 o_add ?_
    refine rd_slS ?_
    refine rd_var rfl ?_
    intro _
    refine ro_none ?_
    refine ro_some ?_
    refine rd_var rfl ?_
    refine ⟨_, _, rfl, rfl, fun t6 => ?_⟩
    refine ⟨_, _, rfl, rfl, fun t5 => ?_⟩
    intro _
    refine rd_cb1 o_strI ?_
    refine rd_op2 o_sub ?_
    refine rd_int ?_
    intro _
    refine rd_cb1 o_int ?_
    refine rd_op2 o_ix ?_
    refine rd_var rfl ?_
    intro _
    refine rd_var rfl ?_
    refine ⟨_, _, _, rfl, rfl, rfl, fun t10 => ?_⟩
    refine ⟨_, _, rfl, rfl, fun t9 => ?_⟩
    refine ⟨_, _, _, rfl, rfl, rfl, fun t8 => ?_⟩
    refine ⟨_, _, rfl, rfl, fun t7 => ?_⟩
    refine ⟨_, _, _, rfl, rfl, rfl, fun t4 => ?_⟩
    intro _
    refine rd_slS ?_
    refine rd_var rfl ?_
    intro _
    refine ro_some ?_
    refine rd_op2 o_add ?_
    refine rd_var rfl ?_
    intro _
    refine rd_int ?_
    refine ⟨_, _, _, rfl, rfl, rfl, fun t13 => ?_⟩
    refine ⟨_, _, rfl, rfl, fun t12 => ?_⟩
    refine ro_none ?_
    refine ⟨_, _, rfl, rfl, fun t11 => ?_⟩
    refine ⟨_, _, _, rfl, rfl, rfl, fun t3 => ?_⟩
    refine ⟨_, rfl, ?_⟩
    exact ⟨_, rfl, rfl, trivial⟩
theorem ok_rows_of (T : Tx K mg) : FnOk P w K mg base CX0 2 T.a_rows_of T.d_rows_of ["names", "first", "nodes"] (spOf (A := D × D × D) (R := D) (fun _ => 0) (fun a => [.f a.1, .f a.2.1, .f a.2.2]) (fun a => m_rows_of a.1 a.2.1 a.2.2) (fun r => .f r) (fun r => [none, none, none])) := by
  refine T.F_rows_of.ok sc_rows_of (fun vs H Q E h => ?_) (fun cdv A outer s H vs Q E hr h => ?_)
  · obtain ⟨a, G, w, _, _, hl, _⟩ := h; exact hl
  · refine ⟨_, (pss_cons (ps_set (i := 3) sc_rows_of.nd rfl (by first | exact .inl rfl | exact .inr rfl) (pe_disp (pps_cons pe_int (pv 1) pps_nil) (by rfl) (by rfl) (fun z => by cases z) (by decide))) (pss_cons (ps_set (i := 4) sc_rows_of.nd rfl (by first | exact .inl rfl | exact .inr rfl) (pe_lst (pa_cons pe_int pa_nil))) (pss_cons (ps_while PassesOwn.never (pt_cmpR (op_neM (hu_64 hr)) (pv 4) (pe_lst pa_nil) (nomark _)) (pss_cons (ps_set (i := 5) sc_rows_of.nd rfl (by first | exact .inl rfl | exact .inr rfl) (pe_bm0K (Kf := K) (by rfl) PySem.F.plainAttrs_list PySem.F.slot_list_pop PySem.F.type_list_pop mt_pop (pv 4))) (pss_one (ps_for PassesOwn.never rfl (pi_listK (Kf := K) (by rfl) (pe_ix (ix_anyK (Kf := K) (by rfl)) (pv 2) (pv 5) (fun _ _ => rfl))) (pg_tupK (Kf := K) (n := 2) (by rfl) rfl (pgs_cons (pg_name (i := 6) sc_rows_of.nd rfl (by first | exact .inl rfl | exact .inr rfl)) (pgs_cons (pg_name (i := 7) sc_rows_of.nd rfl (by first | exact .inl rfl | exact .inr rfl)) pgs_nil))) (pss_cons (ps_set (i := 8) sc_rows_of.nd rfl (by first | exact .inl rfl | exact .inr rfl) (pe_call (ok_behind_turn T) (hr.mono (by decide)) (by rfl) T.g_behind_turn T.F_behind_turn.kp T.b_behind_turn .nil (show Passes CX0 _ E from pass0) (pa_cons (pv 0) (pa_cons (pe_dget (hu_1 hr) (pv 3) (pv 5) (fun _ _ => rfl)) (pa_cons (pv 6) pa_nil))))) (pss_one (ps_if (pt_cmp (pc_dnotin (hu_1 hr) (pv 7) (pv 3))) (pss_cons (ps_dput (hu_1 hr) (pv 3) (pv 7) (pv 8) (by rfl)) (pss_one (ps_expr (pe_bmK (Kf := K) (by rfl) PySem.F.plainAttrs_list PySem.F.slot_list_append PySem.F.type_list_append mt_append (pv 4) (pa_cons (pv 7) pa_nil))))) (pss_one (ps_if (pt_cmpR (op_neM (hu_64 hr)) (pe_dget (hu_1 hr) (pv 3) (pv 7) (fun _ _ => rfl)) (pv 8) (nomark _)) (pss_one (ps_ret pe_non)) pss_nil))))))))) (pss_one (ps_ret (pv 3)))))), ?_⟩
    refine fn_body (K := K) [] (fun _ => by show (3 : Nat) ≤ 9; decide) (fun _ => by show ∀ k ∈ ([] : List Nat), k < 3; decide) h (fun F a hec hE hK hpv => ?_)
    obtain ⟨x_names, x_first, x_nodes⟩ := a
    show RS F [] [some (.f x_names), some (.f x_first), some (.f x_nodes), none, none, none, none, none, none] (m_rows_of x_names x_first x_nodes) _ _ _
    unfold m_rows_of
    refine rs_seq ?_
    refine rs_set ?_ rfl (hpv _ (by decide))
    refine rd_disp1 (fun _ => ?_)
    refine rd_int ?_
    intro _
    refine rd_var rfl ?_
    refine ⟨_, _, _, rfl, rfl, rfl, ?_⟩
    refine ⟨_, rfl, (by show (3 : Nat) < 9; decide), ?_⟩
    refine rs_at [some (.f x_names), some (.f x_first), some (.f x_nodes), some (.dc false [((.int 0), x_first)]), none, none, none, none, none] rfl ?_
    refine rs_seq ?_
    refine rs_set ?_ rfl (hpv _ (by decide))
    refine rd_lst ?_
    refine ra_cons ?_
    refine rd_int ?_
    intro _
    refine ra_nil ?_
    refine ⟨[(.int 0)], rfl, (by show (1 : Nat) ≤ 1000; decide), ?_⟩
    refine ⟨_, rfl, (by show (4 : Nat) < 9; decide), ?_⟩
    refine rs_at [some (.f x_names), some (.f x_first), some (.f x_nodes), some (.dc false [((.int 0), x_first)]), some (.l [(.int 0)]), none, none, none, none] rfl ?_
    refine rs_seq ?_
    refine rs_while FU (fun z1 => [some (.f x_names), some (.f x_first), some (.f x_nodes), some (.dc false z1.2), some (.l z1.1), none, none, none, none]) _ _ _ _ rfl ⟨.inr rfl, ⟨.inr rfl, ⟨.inr rfl, ⟨.inr rfl, ⟨.inr rfl, ⟨.inl rfl, ⟨.inl rfl, ⟨.inl rfl, ⟨.inl rfl, trivial⟩⟩⟩⟩⟩⟩⟩⟩⟩ (fun z1 => ?_) (fun z1 => ?_) (fun z1 => ?_)
    · refine rt_op2B o_ne ?_
      refine rd_ali rfl ?_
      intro _
      refine rd_lst ?_
      refine ra_nil ?_
      refine ⟨[], rfl, (by show (0 : Nat) ≤ 1000; decide), ?_⟩
      refine ⟨_, _, _, rfl, rfl, rfl, fun t2 => ?_⟩
      exact ⟨rfl, ⟨.inr rfl, ⟨.inr rfl, ⟨.inr rfl, ⟨.inr rfl, ⟨.inr rfl, ⟨.inl rfl, ⟨.inl rfl, ⟨.inl rfl, ⟨.inl rfl, trivial⟩⟩⟩⟩⟩⟩⟩⟩⟩⟩
    · refine rs_seq ?_
      refine rs_set ?_ rfl (hpv _ (by decide))
      refine rd_pop ?_
      refine rd_ali rfl ?_
      refine ⟨4, _, _, rfl, rfl, rfl, fun t3 => ?_⟩
      refine ⟨_, rfl, (by show (5 : Nat) < 9; decide), ?_⟩
      refine rs_at [some (.f x_names), some (.f x_first), some (.f x_nodes), some (.dc false z1.2), some (.l t3.2), some (.f t3.1), none, none, none] rfl ?_
      refine rs_for (Z := ((List (D × D)) × (List D))) (R' := D) [6, 7] ?_
      refine ri_lst ?_
      refine rd_op2 o_ix ?_
      refine rd_var rfl ?_
      intro _
      refine rd_var rfl ?_
      refine ⟨_, _, _, rfl, rfl, rfl, fun t7 => ?_⟩
      refine ⟨_, _, rfl, rfl, fun ds6 _ => ?_⟩
      refine ⟨fun z5 => [some (.f x_names), some (.f x_first), some (.f x_nodes), some (.dc false z5.1), some (.l z5.2), some (.f t3.1), none, none, none], _, _, _, rfl, ⟨.inr rfl, ⟨.inr rfl, ⟨.inr rfl, ⟨.inr rfl, ⟨.inr rfl, ⟨.inr rfl, ⟨.inl rfl, ⟨.inl rfl, ⟨.inl rfl, trivial⟩⟩⟩⟩⟩⟩⟩⟩⟩, fun _ => (by first | exact trivial | rfl | exact ⟨rfl, rfl⟩), fun z5 d4 => ?_, fun z5 => ?_⟩
      · refine rg_n2 ⟨_, rfl, fun p8 => ?_⟩
        refine rgs_cons (by show (6 : Nat) < 9; decide) rfl (hpv _ (by decide)) ?_
        refine rgs_cons (by show (7 : Nat) < 9; decide) rfl (hpv _ (by decide)) ?_
        refine rgs_nil ?_
        refine rs_at [some (.f x_names), some (.f x_first), some (.f x_nodes), some (.dc false z5.1), some (.l z5.2), some (.f t3.1), some (.f p8.1), some (.f p8.2), none] rfl ?_
        refine rs_seq ?_
        refine rs_set ?_ rfl (hpv _ (by decide))
        refine rd_call hec hE ?_
        refine ra_cons ?_
        refine rd_var rfl ?_
        intro _
        refine ra_cons ?_
        refine rd_dget ?_
        refine rd_ali rfl ?_
        intro _
        refine rd_var rfl ?_
        refine ⟨_, _, _, rfl, rfl, rfl, fun t10 => ?_⟩
        intro _
        refine ra_cons ?_
        refine rd_var rfl ?_
        intro _
        refine ra_nil ?_
        refine ⟨(x_names, t10, p8.1), _, rfl, rfl, rfl, fun r9 => ?_⟩
        refine ⟨_, rfl, (by show (8 : Nat) < 9; decide), ?_⟩
        refine rs_at [some (.f x_names), some (.f x_first), some (.f x_nodes), some (.dc false z5.1), some (.l z5.2), some (.f t3.1), some (.f p8.1), some (.f p8.2), some (.f r9)] rfl ?_
        refine rs_if ?_
        refine rt_dnotin ?_
        refine rd_var rfl ?_
        intro _
        refine rd_ali rfl ?_
        refine ⟨_, _, _, rfl, rfl, rfl, fun t11 => ?_⟩
        refine ⟨_, _, rfl, fun _ => ?_, fun _ => ?_⟩
        · refine rs_seq ?_
          refine rs_dput ?_
          refine rd_var rfl ?_
          refine ⟨_, rfl, fun _ => ?_⟩
          refine rd_ali rfl ?_
          refine ⟨3, rfl, fun _ => ?_⟩
          refine rd_var rfl ?_
          refine ⟨_, _, _, _, rfl, rfl, rfl, fun t12 => ?_⟩
          refine rs_at [some (.f x_names), some (.f x_first), some (.f x_nodes), some (.dc false t12), some (.l z5.2), some (.f t3.1), some (.f p8.1), some (.f p8.2), some (.f r9)] rfl ?_
          refine rs_drop ?_
          refine rd_append ?_
          refine rd_ali rfl ?_
          refine ⟨4, _, rfl, rfl, fun _ => ?_⟩
          refine rd_var rfl ?_
          refine ⟨_, _, _, rfl, rfl, rfl, fun t13 => ?_⟩
          exact ⟨_, rfl, ⟨.inr rfl, ⟨.inr rfl, ⟨.inr rfl, ⟨.inr rfl, ⟨.inr rfl, ⟨.inr rfl, ⟨.inl rfl, ⟨.inl rfl, ⟨.inl rfl, trivial⟩⟩⟩⟩⟩⟩⟩⟩⟩⟩
        · refine rs_if ?_
          refine rt_op2B o_ne ?_
          refine rd_dget ?_
          refine rd_ali rfl ?_
          intro _
          refine rd_var rfl ?_
          refine ⟨_, _, _, rfl, rfl, rfl, fun t15 => ?_⟩
          intro _
          refine rd_var rfl ?_
          refine ⟨_, _, _, rfl, rfl, rfl, fun t14 => ?_⟩
          refine ⟨_, _, rfl, fun _ => ?_, fun _ => ?_⟩
          · refine rs_ret ?_
            refine rd_non ?_
            refine ⟨_, rfl, ?_⟩
            exact ⟨_, rfl, ⟨_, rfl, ⟨_, rfl, rfl, trivial⟩⟩⟩
          · refine rs_next ?_
            exact ⟨_, rfl, ⟨.inr rfl, ⟨.inr rfl, ⟨.inr rfl, ⟨.inr rfl, ⟨.inr rfl, ⟨.inr rfl, ⟨.inl rfl, ⟨.inl rfl, ⟨.inl rfl, trivial⟩⟩⟩⟩⟩⟩⟩⟩⟩⟩
      · exact ⟨_, rfl, ⟨.inr rfl, ⟨.inr rfl, ⟨.inr rfl, ⟨.inr rfl, ⟨.inr rfl, ⟨.inl rfl, ⟨.inl rfl, ⟨.inl rfl, ⟨.inl rfl, trivial⟩⟩⟩⟩⟩⟩⟩⟩⟩⟩
    · refine rs_at [some (.f x_names), some (.f x_first), some (.f x_nodes), some (.dc false z1.2), some (.l z1.1), none, none, none, none] rfl ?_
      refine rs_ret ?_
      refine rd_frz rfl ?_
      refine ⟨_, rfl, ?_⟩
      exact ⟨_, rfl, rfl, trivial⟩
theorem ok_signs_of (T : Tx K mg) : FnOk P w K mg base CX0 3 T.a_signs_of T.d_signs_of ["sheet"] (spOf (A := D) (R := List D) (fun _ => 0) (fun a => [.f a]) (fun a => m_signs_of a) (fun r => .l r) (fun r => [none])) := by
  refine T.F_signs_of.ok sc_signs_of (fun vs H Q E h => ?_) (fun cdv A outer s H vs Q E hr h => ?_)
  · obtain ⟨a, G, w, _, _, hl, _⟩ := h; exact hl
  · refine ⟨_, (pss_cons (ps_asg (pv 0) (pg_tupK (Kf := K) (n := 4) (by rfl) rfl (pgs_cons (pg_name (i := 2) sc_signs_of.nd rfl (by first | exact .inl rfl | exact .inr rfl)) (pgs_cons (pg_name (i := 3) sc_signs_of.nd rfl (by first | exact .inl rfl | exact .inr rfl)) (pgs_cons (pg_name (i := 4) sc_signs_of.nd rfl (by first | exact .inl rfl | exact .inr rfl)) (pgs_cons (pg_name (i := 5) sc_signs_of.nd rfl (by first | exact .inl rfl | exact .inr rfl)) pgs_nil)))))) (pss_cons (ps_set (i := 1) sc_signs_of.nd rfl (by first | exact .inl rfl | exact .inr rfl) (pe_call (ok_rows_of T) (hr.mono (by decide)) (by rfl) T.g_rows_of T.F_rows_of.kp T.b_rows_of .nil (show Passes CX0 _ E from pass0) (pa_cons (pe_op op_catR (pv 2) (pv 3)) (pa_cons (pv 4) (pa_cons (pv 5) pa_nil))))) (pss_one (ps_ret (pe_lc (own := [("number", 6)]) rfl (by exact sc_signs_of.nd) (pi_range1 (by rfl) T.n_range (pa_cons (pe_callB (call_lenK (Kf := K) (by rfl)) (by rfl) T.n_len PySem.boot_len (pa_cons (pv 5) pa_nil)) pa_nil)) blk_signs_of_0 (fun _ _ _ _ _ => (pg_name (i := 6) sc_signs_of.nd rfl (by first | exact .inl rfl | exact .inr rfl))) (fun _ _ _ _ _ => pts_nil) (fun _ _ _ _ _ => (pe_dget1 (hu_1 hr) (pv 1) (pv 6) ⟨rfl, rfl, rfl, rfl⟩))))))), ?_⟩
    refine fn_body (K := K) [] (fun _ => by show (1 : Nat) ≤ 7; decide) (fun _ => by show ∀ k ∈ ([] : List Nat), k < 1; decide) h (fun F x_sheet hec hE hK hpv => ?_)
    skip
    show RS F [] [some (.f x_sheet), none, none, none, none, none, none] (m_signs_of x_sheet) _ _ _
    unfold m_signs_of
    refine rs_seq ?_
    refine rs_asgG [2, 3, 4, 5] ?_
    refine rd_var rfl ?_
    refine ⟨_, rfl, ?_⟩
    refine rg_n4 ⟨_, rfl, fun p1 => ?_⟩
    refine rgs_cons (by show (2 : Nat) < 7; decide) rfl (hpv _ (by decide)) ?_
    refine rgs_cons (by show (3 : Nat) < 7; decide) rfl (hpv _ (by decide)) ?_
    refine rgs_cons (by show (4 : Nat) < 7; decide) rfl (hpv _ (by decide)) ?_
    refine rgs_cons (by show (5 : Nat) < 7; decide) rfl (hpv _ (by decide)) ?_
    refine rgs_nil ?_
    refine rs_at [some (.f x_sheet), none, some (.f p1.1), some (.f p1.2.1), some (.f p1.2.2.1), some (.f p1.2.2.2), none] rfl ?_
    refine rs_seq ?_
    refine rs_set ?_ rfl (hpv _ (by decide))
    refine rd_call hec hE ?_
    refine ra_cons ?_
    refine rd_fz ?_
    refine rd_op2L o_cat ?_
    refine rd_var rfl ?_
    intro _
    refine rd_var rfl ?_
    refine ⟨_, _, _, rfl, rfl, rfl, fun t3 => ?_⟩
    refine ⟨_, rfl, ?_⟩
    intro _
    refine ra_cons ?_
    refine rd_var rfl ?_
    intro _
    refine ra_cons ?_
    refine rd_var rfl ?_
    intro _
    refine ra_nil ?_
    refine ⟨((.lst t3), p1.2.2.1, p1.2.2.2), _, rfl, rfl, rfl, fun r2 => ?_⟩
    refine ⟨_, rfl, (by show (1 : Nat) < 7; decide), ?_⟩
    refine rs_at [some (.f x_sheet), some (.f r2), some (.f p1.1), some (.f p1.2.1), some (.f p1.2.2.1), some (.f p1.2.2.2), none] rfl ?_
    refine rs_ret ?_
    refine rd_lcR [6] (fun i hi => hi) (all1 (hpv _ (by decide))) ?_
    refine ri_range1 ?_
    refine rd_cb1 o_len ?_
    refine rd_var rfl ?_
    refine ⟨_, _, rfl, rfl, fun t7 => ?_⟩
    refine ⟨_, _, rfl, rfl, fun ds6 => ?_⟩
    refine ⟨[some (.f x_sheet), some (.f r2), some (.f p1.1), some (.f p1.2.1), some (.f p1.2.2.1), some (.f p1.2.2.2), none], _, _, rfl, ⟨.inr rfl, ⟨.inr rfl, ⟨.inr rfl, ⟨.inr rfl, ⟨.inr rfl, ⟨.inr rfl, ⟨.inl rfl, trivial⟩⟩⟩⟩⟩⟩⟩, (by first | exact trivial | rfl | exact ⟨rfl, rfl⟩), (all1 rfl), rfl, fun d4 _ _ => ?_, fun ys5 => ?_⟩
    · refine rg_name (by show (6 : Nat) < 7; decide) rfl (hpv _ (by decide)) ?_
      refine rt_true rfl ?_
      refine ⟨_, .ok none, (if_pos rfl).symm, fun _ => ?_, fun h => by cases h⟩
      refine rd_get1 ?_
      refine rd_var rfl ?_
      refine ⟨_, _, rfl, rfl, fun t9 _ => ?_⟩
      refine rd_var rfl ?_
      refine ⟨_, _, _, rfl, rfl, rfl, fun t8 => ?_⟩
      exact ⟨_, rfl, rfl, ⟨.inr rfl, ⟨.inr rfl, ⟨.inr rfl, ⟨.inr rfl, ⟨.inr rfl, ⟨.inr rfl, ⟨.inl rfl, trivial⟩⟩⟩⟩⟩⟩⟩⟩
    · refine ⟨_, rfl, ?_⟩
      exact ⟨_, rfl, rfl, trivial⟩
theorem ok__law_cell (T : Tx K mg) : FnOk P w K mg base CX0 1 T.a__law_cell T.d__law_cell ["script", "k"] (spOf (A := D × D) (R := D) (fun _ => 0) (fun a => [.f a.1, .f a.2]) (fun a => m__law_cell a.1 a.2) (fun r => .f r) (fun r => [none, none])) := by
  refine T.F__law_cell.ok sc__law_cell (fun vs H Q E h => ?_) (fun cdv A outer s H vs Q E hr h => ?_)
  · obtain ⟨a, G, w, _, _, hl, _⟩ := h; exact hl
  · refine ⟨_, (pss_cons (ps_if (pt_cmpR op_ltA (pv 1) (pe_callB (call_lenK (Kf := K) (by rfl)) (by rfl) T.n_len PySem.boot_len (pa_cons (pv 0) pa_nil)) (nomark _)) (pss_one (ps_ret (pe_ix (ix_anyK (Kf := K) (by rfl)) (pv 0) (pv 1) (fun _ _ => rfl)))) pss_nil) (pss_one (ps_ret (pe_op op_addA (pe_op op_addA (pe_op op_mul (pe_op op_mul pe_int (pv 1)) (pv 1)) (pe_op op_mul pe_int (pv 1))) pe_int)))), ?_⟩
    refine fn_body (K := K) [] (fun _ => by show (2 : Nat) ≤ 2; decide) (fun _ => by show ∀ k ∈ ([] : List Nat), k < 2; decide) h (fun F a hec hE hK hpv => ?_)
    obtain ⟨x_script, x_k⟩ := a
    show RS F [] [some (.f x_script), some (.f x_k)] (m__law_cell x_script x_k) _ _ _
    unfold m__law_cell
    refine rs_seq ?_
    refine rs_if ?_
    refine rt_op2B o_lt ?_
    refine rd_var rfl ?_
    intro _
    refine rd_cb1 o_len ?_
    refine rd_var rfl ?_
    refine ⟨_, _, rfl, rfl, fun t2 => ?_⟩
    refine ⟨_, _, _, rfl, rfl, rfl, fun t1 => ?_⟩
    refine ⟨_, _, rfl, fun _ => ?_, fun _ => ?_⟩
    · refine rs_ret ?_
      refine rd_op2 o_ix ?_
      refine rd_var rfl ?_
      intro _
      refine rd_var rfl ?_
      refine ⟨_, _, _, rfl, rfl, rfl, fun t3 => ?_⟩
      refine ⟨_, rfl, ?_⟩
      exact ⟨_, rfl, rfl, trivial⟩
    · refine rs_next ?_
      refine rs_at [some (.f x_script), some (.f x_k)] rfl ?_
      refine rs_ret ?_
      refine rd_op2 o_add ?_
      refine rd_op2 o_add ?_
      refine rd_op2 o_mul ?_
      refine rd_op2 o_mul ?_
      refine rd_int ?_
      intro _
      refine rd_var rfl ?_
      refine ⟨_, _, _, rfl, rfl, rfl, fun t7 => ?_⟩
      intro _
      refine rd_var rfl ?_
      refine ⟨_, _, _, rfl, rfl, rfl, fun t6 => ?_⟩
      intro _
      refine rd_op2 o_mul ?_
      refine rd_int ?_
      intro _
      refine rd_var rfl ?_
      refine ⟨_, _, _, rfl, rfl, rfl, fun t8 => ?_⟩
      refine ⟨_, _, _, rfl, rfl, rfl, fun t5 => ?_⟩
      intro _
      refine rd_int ?_
      refine ⟨_, _, _, rfl, rfl, rfl, fun t4 => ?_⟩
      refine ⟨_, rfl, ?_⟩
      exact ⟨_, rfl, rfl, trivial⟩
theorem ok__law_walked (T : Tx K mg) : FnOk P w K mg base CX0 2 T.a__law_walked T.d__law_walked ["store", "sheet", "told"] (spOf (A := (List D) × D × D) (R := D × (List D)) (fun _ => 0) (fun a => [.l a.1, .f a.2.1, .f a.2.2]) (fun a => m__law_walked a.1 a.2.1 a.2.2) (fun r => .f r.1) (fun r => [some (.l r.2), none, none])) := by
  refine T.F__law_walked.ok sc__law_walked (fun vs H Q E h => ?_) (fun cdv A outer s H vs Q E hr h => ?_)
  · obtain ⟨a, G, w, _, _, hl, _⟩ := h; exact hl
  · refine ⟨_, (pss_cons (ps_set (i := 3) sc__law_walked.nd rfl (by first | exact .inl rfl | exact .inr rfl) (pe_op op_catR (pe_ix (ix_anyK (Kf := K) (by rfl)) (pv 1) pe_int (fun _ _ => rfl)) (pe_ix (ix_anyK (Kf := K) (by rfl)) (pv 1) pe_int (fun _ _ => rfl)))) (pss_cons (ps_set (i := 4) sc__law_walked.nd rfl (by first | exact .inl rfl | exact .inr rfl) (pe_ix (ix_anyK (Kf := K) (by rfl)) (pv 1) pe_int (fun _ _ => rfl))) (pss_cons (ps_set (i := 5) sc__law_walked.nd rfl (by first | exact .inl rfl | exact .inr rfl) pe_int) (pss_cons (ps_for PassesOwn.never rfl (pi_range1 (by rfl) T.n_range (pa_cons pe_int pa_nil)) (pg_name (i := 6) sc__law_walked.nd rfl (by first | exact .inl rfl | exact .inr rfl)) (pss_cons (ps_if (pt_cmpR (op_neM (hu_64 hr)) (pe_ix (ix_anyK (Kf := K) (by rfl)) (pv 2) (pv 5) (fun _ _ => rfl)) (pv 4) (nomark _)) (pss_one (ps_ret pe_bl)) pss_nil) (pss_cons (ps_if (pt_cmpR (op_eqM (hu_64 hr)) (pe_ix (ix_anyK (Kf := K) (by rfl)) (pe_ix (ix_anyK (Kf := K) (by rfl)) (pv 1) pe_int (fun _ _ => rfl)) (pv 5) (fun _ _ => rfl)) (pe_lst pa_nil) (nomark _)) (pss_one (ps_ret pe_bl)) pss_nil) (pss_cons (ps_asg (pe_ix (ix_anyK (Kf := K) (by rfl)) (pe_ix (ix_anyK (Kf := K) (by rfl)) (pe_ix (ix_anyK (Kf := K) (by rfl)) (pv 1) pe_int (fun _ _ => rfl)) (pv 5) (fun _ _ => rfl)) (pe_call (ok__law_take T) (hr.mono (by decide)) (by rfl) T.g__law_take T.F__law_take.kp T.b__law_take .nil (show Passes CX0 _ E from pass0) (pa_cons (pv 0) (pa_cons (pe_callB (call_lenK (Kf := K) (by rfl)) (by rfl) T.n_len PySem.boot_len (pa_cons (pe_ix (ix_anyK (Kf := K) (by rfl)) (pe_ix (ix_anyK (Kf := K) (by rfl)) (pv 1) pe_int (fun _ _ => rfl)) (pv 5) (fun _ _ => rfl)) pa_nil)) pa_nil))) (fun _ _ => rfl)) (pg_tupK (Kf := K) (n := 2) (by rfl) rfl (pgs_cons (pg_name (i := 7) sc__law_walked.nd rfl (by first | exact .inl rfl | exact .inr rfl)) (pgs_cons (pg_name (i := 5) sc__law_walked.nd rfl (by first | exact .inl rfl | exact .inr rfl)) pgs_nil)))) (pss_one (ps_set (i := 4) sc__law_walked.nd rfl (by first | exact .inl rfl | exact .inr rfl) (pe_call (ok__law_flip T) (hr.mono (by decide)) (by rfl) T.g__law_flip T.F__law_flip.kp T.b__law_flip .nil (show Passes CX0 _ E from pass0) (pa_cons (pv 4) (pa_cons (pe_bmK (Kf := K) (by rfl) PySem.F.plainAttrs_list PySem.F.slot_list_index PySem.F.type_list_index (mt_indexK (Kf := K) (by rfl)) (pv 3) (pa_cons (pv 7) pa_nil)) pa_nil))))))))) (pss_one (ps_ret pe_bl)))))), ?_⟩
    refine fn_body (K := K) [0] (fun _ => by show (3 : Nat) ≤ 8; decide) (fun _ => by show ∀ k ∈ ([0] : List Nat), k < 3; decide) h (fun F a hec hE hK hpv => ?_)
    obtain ⟨x_store, x_sheet, x_told⟩ := a
    show RS F [] [some (.l x_store), some (.f x_sheet), some (.f x_told), none, none, none, none, none] (m__law_walked x_store x_sheet x_told) _ _ _
    unfold m__law_walked
    refine rs_seq ?_
    refine rs_set ?_ rfl (hpv _ (by decide))
    refine rd_fz ?_
    refine rd_op2L o_cat ?_
    refine rd_op2 o_ix ?_
    refine rd_var rfl ?_
    intro _
    refine rd_int ?_
    refine ⟨_, _, _, rfl, rfl, rfl, fun t2 => ?_⟩
    intro _
    refine rd_op2 o_ix ?_
    refine rd_var rfl ?_
    intro _
    refine rd_int ?_
    refine ⟨_, _, _, rfl, rfl, rfl, fun t3 => ?_⟩
    refine ⟨_, _, _, rfl, rfl, rfl, fun t1 => ?_⟩
    refine ⟨_, rfl, ?_⟩
    refine ⟨_, rfl, (by show (3 : Nat) < 8; decide), ?_⟩
    refine rs_at [some (.l x_store), some (.f x_sheet), some (.f x_told), some (.f (.lst t1)), none, none, none, none] rfl ?_
    refine rs_seq ?_
    refine rs_set ?_ rfl (hpv _ (by decide))
    refine rd_op2 o_ix ?_
    refine rd_var rfl ?_
    intro _
    refine rd_int ?_
    refine ⟨_, _, _, rfl, rfl, rfl, fun t4 => ?_⟩
    refine ⟨_, rfl, (by show (4 : Nat) < 8; decide), ?_⟩
    refine rs_at [some (.l x_store), some (.f x_sheet), some (.f x_told), some (.f (.lst t1)), some (.f t4), none, none, none] rfl ?_
    refine rs_seq ?_
    refine rs_set ?_ rfl (hpv _ (by decide))
    refine rd_int ?_
    refine ⟨_, rfl, (by show (5 : Nat) < 8; decide), ?_⟩
    refine rs_at [some (.l x_store), some (.f x_sheet), some (.f x_told), some (.f (.lst t1)), some (.f t4), some (.f (.int 0)), none, none] rfl ?_
    refine rs_seq ?_
    refine rs_for (Z := (D × (List D) × D)) (R' := (D × (List D))) [6] ?_
    refine ri_range1 ?_
    refine rd_int ?_
    refine ⟨_, _, rfl, rfl, fun ds7 => ?_⟩
    refine ⟨fun z6 => [some (.l z6.2.1), some (.f x_sheet), some (.f x_told), some (.f (.lst t1)), some (.f z6.2.2), some (.f z6.1), none, none], _, _, _, rfl, ⟨.inr rfl, ⟨.inr rfl, ⟨.inr rfl, ⟨.inr rfl, ⟨.inr rfl, ⟨.inr rfl, ⟨.inl rfl, ⟨.inl rfl, trivial⟩⟩⟩⟩⟩⟩⟩⟩, fun _ => (by first | exact trivial | rfl | exact ⟨rfl, rfl⟩), fun z6 d5 => ?_, fun z6 => ?_⟩
    · refine rg_name (by show (6 : Nat) < 8; decide) rfl (hpv _ (by decide)) ?_
      refine rs_at [some (.l z6.2.1), some (.f x_sheet), some (.f x_told), some (.f (.lst t1)), some (.f z6.2.2), some (.f z6.1), some (.f d5), none] rfl ?_
      refine rs_seq ?_
      refine rs_if ?_
      refine rt_op2B o_ne ?_
      refine rd_op2 o_ix ?_
      refine rd_var rfl ?_
      intro _
      refine rd_var rfl ?_
      refine ⟨_, _, _, rfl, rfl, rfl, fun t9 => ?_⟩
      intro _
      refine rd_var rfl ?_
      refine ⟨_, _, _, rfl, rfl, rfl, fun t8 => ?_⟩
      refine ⟨_, _, rfl, fun _ => ?_, fun _ => ?_⟩
      · refine rs_ret ?_
        refine rd_bl ?_
        refine ⟨_, rfl, ?_⟩
        exact ⟨_, rfl, ⟨_, rfl, rfl, ⟨rfl, by decide, trivial⟩⟩⟩
      · refine rs_next ?_
        refine rs_at [some (.l z6.2.1), some (.f x_sheet), some (.f x_told), some (.f (.lst t1)), some (.f z6.2.2), some (.f z6.1), some (.f d5), none] rfl ?_
        refine rs_seq ?_
        refine rs_if ?_
        refine rt_op2B o_eq ?_
        refine rd_op2 o_ix ?_
        refine rd_op2 o_ix ?_
        refine rd_var rfl ?_
        intro _
        refine rd_int ?_
        refine ⟨_, _, _, rfl, rfl, rfl, fun t12 => ?_⟩
        intro _
        refine rd_var rfl ?_
        refine ⟨_, _, _, rfl, rfl, rfl, fun t11 => ?_⟩
        intro _
        refine rd_lst ?_
        refine ra_nil ?_
        refine ⟨[], rfl, (by show (0 : Nat) ≤ 1000; decide), ?_⟩
        refine ⟨_, _, _, rfl, rfl, rfl, fun t10 => ?_⟩
        refine ⟨_, _, rfl, fun _ => ?_, fun _ => ?_⟩
        · refine rs_ret ?_
          refine rd_bl ?_
          refine ⟨_, rfl, ?_⟩
          exact ⟨_, rfl, ⟨_, rfl, rfl, ⟨rfl, by decide, trivial⟩⟩⟩
        · refine rs_next ?_
          refine rs_at [some (.l z6.2.1), some (.f x_sheet), some (.f x_told), some (.f (.lst t1)), some (.f z6.2.2), some (.f z6.1), some (.f d5), none] rfl ?_
          refine rs_seq ?_
          refine rs_asgG [7, 5] ?_
          refine rd_op2 o_ix ?_
          refine rd_op2 o_ix ?_
          refine rd_op2 o_ix ?_
          refine rd_var rfl ?_
          intro _
          refine rd_int ?_
          refine ⟨_, _, _, rfl, rfl, rfl, fun t15 => ?_⟩
          intro _
          refine rd_var rfl ?_
          refine ⟨_, _, _, rfl, rfl, rfl, fun t14 => ?_⟩
          intro _
          refine rd_call hec hE ?_
          refine ra_cons ?_
          refine rd_ali rfl ?_
          intro _
          refine ra_cons ?_
          refine rd_cb1 o_len ?_
          refine rd_op2 o_ix ?_
          refine rd_op2 o_ix ?_
          refine rd_var rfl ?_
          intro _
          refine rd_int ?_
          refine ⟨_, _, _, rfl, rfl, rfl, fun t19 => ?_⟩
          intro _
          refine rd_var rfl ?_
          refine ⟨_, _, _, rfl, rfl, rfl, fun t18 => ?_⟩
          refine ⟨_, _, rfl, rfl, fun t17 => ?_⟩
          intro _
          refine ra_nil ?_
          refine ⟨(z6.2.1, t17), _, rfl, rfl, rfl, fun r16 => ?_⟩
          refine ⟨_, _, _, rfl, rfl, rfl, fun t13 => ?_⟩
          refine ⟨_, rfl, ?_⟩
          refine rg_n2 ⟨_, rfl, fun p20 => ?_⟩
          refine rgs_cons (by show (7 : Nat) < 8; decide) rfl (hpv _ (by decide)) ?_
          refine rgs_cons (by show (5 : Nat) < 8; decide) rfl (hpv _ (by decide)) ?_
          refine rgs_nil ?_
          refine rs_at [some (.l r16.2), some (.f x_sheet), some (.f x_told), some (.f (.lst t1)), some (.f z6.2.2), some (.f p20.2), some (.f d5), some (.f p20.1)] rfl ?_
          refine rs_set ?_ rfl (hpv _ (by decide))
          refine rd_call hec hE ?_
          refine ra_cons ?_
          refine rd_var rfl ?_
          intro _
          refine ra_cons ?_
          refine rd_idx ?_
          refine rd_var rfl ?_
          refine ⟨_, _, rfl, rfl, fun t23 _ => ?_⟩
          refine rd_var rfl ?_
          refine ⟨_, _, _, rfl, rfl, rfl, fun t22 => ?_⟩
          intro _
          refine ra_nil ?_
          refine ⟨(z6.2.2, t22), _, rfl, rfl, rfl, fun r21 => ?_⟩
          refine ⟨_, rfl, (by show (4 : Nat) < 8; decide), ?_⟩
          exact ⟨_, rfl, ⟨.inr rfl, ⟨.inr rfl, ⟨.inr rfl, ⟨.inr rfl, ⟨.inr rfl, ⟨.inr rfl, ⟨.inl rfl, ⟨.inl rfl, trivial⟩⟩⟩⟩⟩⟩⟩⟩⟩
    · refine rs_at [some (.l z6.2.1), some (.f x_sheet), some (.f x_told), some (.f (.lst t1)), some (.f z6.2.2), some (.f z6.1), none, none] rfl ?_
      refine rs_ret ?_
      refine rd_bl ?_
      refine ⟨_, rfl, ?_⟩
      exact ⟨_, rfl, rfl, ⟨rfl, by decide, trivial⟩⟩
theorem ok_law (T : Tx K mg) : FnOk P w K mg base CX0 4 T.a_law T.d_law ["script"] (spOf (A := D) (R := D) (fun _ => 0) (fun a => [.f a]) (fun a => m_law a) (fun r => .f r) (fun r => [none])) := by
  refine T.F_law.ok sc_law (fun vs H Q E h => ?_) (fun cdv A outer s H vs Q E hr h => ?_)
  · obtain ⟨a, G, w, _, _, hl, _⟩ := h; exact hl
  · refine ⟨_, (pss_cons (ps_for PassesOwn.never rfl (pi_range1 (by rfl) T.n_range (pa_cons (pe_callB (call_min2 rfl) (by rfl) T.n_min PyProof.Rows.boot_min (pa_cons (pe_callB (call_max2 rfl) (by rfl) T.n_max PyProof.Rows.boot_max (pa_cons (pe_callB (call_lenK (Kf := K) (by rfl)) (by rfl) T.n_len PySem.boot_len (pa_cons (pv 0) pa_nil)) (pa_cons pe_int pa_nil))) (pa_cons pe_int pa_nil))) pa_nil)) (pg_name (i := 1) sc_law.nd rfl (by first | exact .inl rfl | exact .inr rfl)) (pss_cons (ps_set (i := 2) sc_law.nd rfl (by first | exact .inl rfl | exact .inr rfl) (pe_call (ok__law_store T) (hr.mono (by decide)) (by rfl) T.g__law_store T.F__law_store.kp T.b__law_store .nil (show Passes CX0 _ E from pass0) (pa_cons (pe_call (ok__law_cell T) (hr.mono (by decide)) (by rfl) T.g__law_cell T.F__law_cell.kp T.b__law_cell .nil (show Passes CX0 _ E from pass0) (pa_cons (pv 0) (pa_cons (pv 1) pa_nil))) pa_nil))) (pss_cons (ps_set (i := 3) sc_law.nd rfl (by first | exact .inl rfl | exact .inr rfl) (pe_call (ok__law_sheet T) (hr.mono (by decide)) (by rfl) T.g__law_sheet T.F__law_sheet.kp T.b__law_sheet .nil (show Passes CX0 _ E from pass0) (pa_cons (pv 2) (pa_cons (pe_ix (ix_anyK (Kf := K) (by rfl)) (pe_lst (pa_cons pe_int (pa_cons pe_int (pa_cons pe_int (pa_cons pe_int (pa_cons pe_int (pa_cons pe_int (pa_cons pe_int (pa_cons pe_int pa_nil))))))))) (pe_call (ok__law_take T) (hr.mono (by decide)) (by rfl) T.g__law_take T.F__law_take.kp T.b__law_take .nil (show Passes CX0 _ E from pass0) (pa_cons (pv 2) (pa_cons pe_int pa_nil))) (fun _ _ => rfl)) pa_nil)))) (pss_cons (ps_set (i := 4) sc_law.nd rfl (by first | exact .inl rfl | exact .inr rfl) (pe_call (ok__law_sheet_copy T) (hr.mono (by decide)) (by rfl) T.g__law_sheet_copy T.F__law_sheet_copy.kp T.b__law_sheet_copy .nil (show Passes CX0 _ E from pass0) (pa_cons (pv 3) pa_nil))) (pss_cons (ps_set (i := 5) sc_law.nd rfl (by first | exact .inl rfl | exact .inr rfl) (pe_call (ok__law_signs T) (hr.mono (by decide)) (by rfl) T.g__law_signs T.F__law_signs.kp T.b__law_signs .nil (show Passes CX0 _ E from pass0) (pa_cons (pv 3) pa_nil))) (pss_cons (ps_set (i := 6) sc_law.nd rfl (by first | exact .inl rfl | exact .inr rfl) (pe_call (ok_signs_of T) (hr.mono (by decide)) (by rfl) T.g_signs_of T.F_signs_of.kp T.b_signs_of .nil (show Passes CX0 _ E from pass0) (pa_cons (pv 4) pa_nil))) (pss_cons (ps_if (pw_or (pt_not (pt_val (pe_callB (call_isiK' (Kf := K) (by rfl)) (by rfl) T.n_isinstance PyProof.Rows.boot_isinstance (pa_cons (pv 6) (pa_cons (pe_bltn (v := .ty "list") (u := .type "list") (by rfl) T.n_list (by decide +kernel) rfl) pa_nil))))) (pw_or (pt_cmpR (op_neM (hu_64 hr)) (pv 6) (pv 5) (nomark _)) (pw_or1 (pt_not (pt_val (pe_call (ok__law_walked T) (hr.mono (by decide)) (by rfl) T.g__law_walked T.F__law_walked.kp T.b__law_walked .nil (show Passes CX0 _ E from pass0) (pa_cons (pv 2) (pa_cons (pv 3) (pa_cons (pv 6) pa_nil))))))))).pt (pss_one (ps_ret pe_bl)) pss_nil) (pss_cons (ps_for PassesOwn.never rfl (pi_listK (Kf := K) (by rfl) (pv 6)) (pg_name (i := 7) sc_law.nd rfl (by first | exact .inl rfl | exact .inr rfl)) (pss_one (ps_if (pw_and (pt_cmpR op_notN (pv 7) pe_non (nomark _)) (pw_and1 (pt_not (pt_val (pe_callB (call_isiK' (Kf := K) (by rfl)) (by rfl) T.n_isinstance PyProof.Rows.boot_isinstance (pa_cons (pv 7) (pa_cons (pe_bltn (v := .ty "str") (u := .type "str") (by rfl) T.n_str (by decide +kernel) rfl) pa_nil))))))).pt (pss_one (ps_ret pe_bl)) pss_nil))) (pss_cons (ps_expr (pe_bm0K (Kf := K) (by rfl) PySem.F.plainAttrs_list PySem.F.slot_list_reverse PySem.F.type_list_reverse mt_reverse (pv 6))) (pss_cons (ps_expr (pe_bmK (Kf := K) (by rfl) PySem.F.plainAttrs_list PySem.F.slot_list_append PySem.F.type_list_append mt_append (pv 6) (pa_cons pe_non pa_nil))) (pss_one (ps_if (pw_or (pt_cmpR (op_neM (hu_64 hr)) (pe_call (ok_signs_of T) (hr.mono (by decide)) (by rfl) T.g_signs_of T.F_signs_of.kp T.b_signs_of .nil (show Passes CX0 _ E from pass0) (pa_cons (pv 4) pa_nil)) (pv 5) (nomark _)) (pw_or1 (pt_cmpR (op_neM (hu_64 hr)) (pv 4) (pv 3) (nomark _)))).pt (pss_one (ps_ret pe_bl)) pss_nil)))))))))))) (pss_one (ps_ret pe_bl))), ?_⟩
    refine fn_body (K := K) [] (fun _ => by show (1 : Nat) ≤ 8; decide) (fun _ => by show ∀ k ∈ ([] : List Nat), k < 1; decide) h (fun F x_script hec hE hK hpv => ?_)
    skip
    show RS F [] [some (.f x_script), none, none, none, none, none, none, none] (m_law x_script) _ _ _
    unfold m_law
    refine rs_seq ?_
    refine rs_for (Z := Unit) (R' := D) [1] ?_
    refine ri_range1 ?_
    refine rd_cb2 o_min ?_
    refine rd_cb2 o_max ?_
    refine rd_cb1 o_len ?_
    refine rd_var rfl ?_
    refine ⟨_, _, rfl, rfl, fun t6 => ?_⟩
    intro _
    refine rd_int ?_
    refine ⟨_, _, _, rfl, rfl, rfl, fun t5 => ?_⟩
    intro _
    refine rd_int ?_
    refine ⟨_, _, _, rfl, rfl, rfl, fun t4 => ?_⟩
    refine ⟨_, _, rfl, rfl, fun ds3 => ?_⟩
    refine ⟨fun z2 => [some (.f x_script), none, none, none, none, none, none, none], _, _, _, rfl, ⟨.inr rfl, ⟨.inl rfl, ⟨.inl rfl, ⟨.inl rfl, ⟨.inl rfl, ⟨.inl rfl, ⟨.inl rfl, ⟨.inl rfl, trivial⟩⟩⟩⟩⟩⟩⟩⟩, fun _ => (by first | exact trivial | rfl | exact ⟨rfl, rfl⟩), fun z2 d1 => ?_, fun z2 => ?_⟩
    · refine rg_name (by show (1 : Nat) < 8; decide) rfl (hpv _ (by decide)) ?_
      refine rs_at [some (.f x_script), some (.f d1), none, none, none, none, none, none] rfl ?_
      refine rs_seq ?_
      refine rs_set ?_ rfl (hpv _ (by decide))
      refine rd_call hec hE ?_
      refine ra_cons ?_
      refine rd_call hec hE ?_
      refine ra_cons ?_
      refine rd_var rfl ?_
      intro _
      refine ra_cons ?_
      refine rd_var rfl ?_
      intro _
      refine ra_nil ?_
      refine ⟨(x_script, d1), _, rfl, rfl, rfl, fun r8 => ?_⟩
      intro _
      refine ra_nil ?_
      refine ⟨(r8), _, rfl, rfl, rfl, fun r7 => ?_⟩
      refine ⟨_, rfl, (by show (2 : Nat) < 8; decide), ?_⟩
      refine rs_at [some (.f x_script), some (.f d1), some (.l r7), none, none, none, none, none] rfl ?_
      refine rs_seq ?_
      refine rs_set ?_ rfl (hpv _ (by decide))
      refine rd_call hec hE ?_
      refine ra_cons ?_
      refine rd_ali rfl ?_
      intro _
      refine ra_cons ?_
      refine rd_op2 o_ix ?_
      refine rd_lst ?_
      refine ra_cons ?_
      refine rd_int ?_
      intro _
      refine ra_cons ?_
      refine rd_int ?_
      intro _
      refine ra_cons ?_
      refine rd_int ?_
      intro _
      refine ra_cons ?_
      refine rd_int ?_
      intro _
      refine ra_cons ?_
      refine rd_int ?_
      intro _
      refine ra_cons ?_
      refine rd_int ?_
      intro _
      refine ra_cons ?_
      refine rd_int ?_
      intro _
      refine ra_cons ?_
      refine rd_int ?_
      intro _
      refine ra_nil ?_
      refine ⟨[(.int 12), (.int 12), (.int 12), (.int 12), (.int 12), (.int 12), (.int 12), (.int 40)], rfl, (by show (8 : Nat) ≤ 1000; decide), ?_⟩
      intro _
      refine rd_call hec hE ?_
      refine ra_cons ?_
      refine rd_ali rfl ?_
      intro _
      refine ra_cons ?_
      refine rd_int ?_
      intro _
      refine ra_nil ?_
      refine ⟨(r7, (.int 8)), _, rfl, rfl, rfl, fun r11 => ?_⟩
      refine ⟨_, _, _, rfl, rfl, rfl, fun t10 => ?_⟩
      intro _
      refine ra_nil ?_
      refine ⟨(r11.2, t10), _, rfl, rfl, rfl, fun r9 => ?_⟩
      refine ⟨_, rfl, (by show (3 : Nat) < 8; decide), ?_⟩
      refine rs_at [some (.f x_script), some (.f d1), some (.l r9.2), some (.f r9.1), none, none, none, none] rfl ?_
      refine rs_seq ?_
      refine rs_set ?_ rfl (hpv _ (by decide))
      refine rd_call hec hE ?_
      refine ra_cons ?_
      refine rd_var rfl ?_
      intro _
      refine ra_nil ?_
      refine ⟨(r9.1), _, rfl, rfl, rfl, fun r12 => ?_⟩
      refine ⟨_, rfl, (by show (4 : Nat) < 8; decide), ?_⟩
      refine rs_at [some (.f x_script), some (.f d1), some (.l r9.2), some (.f r9.1), some (.f r12), none, none, none] rfl ?_
      refine rs_seq ?_
      refine rs_set ?_ rfl (hpv _ (by decide))
      refine rd_call hec hE ?_
      refine ra_cons ?_
      refine rd_var rfl ?_
      intro _
      refine ra_nil ?_
      refine ⟨(r9.1), _, rfl, rfl, rfl, fun r13 => ?_⟩
      refine ⟨_, rfl, (by show (5 : Nat) < 8; decide), ?_⟩
      refine rs_at [some (.f x_script), some (.f d1), some (.l r9.2), some (.f r9.1), some (.f r12), some (.f r13), none, none] rfl ?_
      refine rs_seq ?_
      refine rs_set ?_ rfl (hpv _ (by decide))
      refine rd_call hec hE ?_
      refine ra_cons ?_
      refine rd_var rfl ?_
      intro _
      refine ra_nil ?_
      refine ⟨(r12), _, rfl, rfl, rfl, fun r14 => ?_⟩
      refine ⟨_, rfl, (by show (6 : Nat) < 8; decide), ?_⟩
      refine rs_at [some (.f x_script), some (.f d1), some (.l r9.2), some (.f r9.1), some (.f r12), some (.f r13), some (.l r14), none] rfl ?_
      refine rs_seq ?_
      refine rs_if ?_
      refine rt_or (Z := (List D)) ?_
      refine rt_not ?_
      refine rt_val ?_
      refine rd_isi .list ?_
      refine rd_ali rfl ?_
      refine ⟨_, _, rfl, rfl, fun t17 => ?_⟩
      refine ⟨_, _, rfl, rfl, fun t16 => ?_⟩
      refine ⟨fun z => [some (.f x_script), some (.f d1), some (.l z), some (.f r9.1), some (.f r12), some (.f r13), some (.l r14), none], r9.2, _, _, rfl, ⟨.inr rfl, ⟨.inr rfl, ⟨.inr rfl, ⟨.inr rfl, ⟨.inr rfl, ⟨.inr rfl, ⟨.inr rfl, ⟨.inl rfl, trivial⟩⟩⟩⟩⟩⟩⟩⟩, fun _ => ?_, fun p15 => ?_⟩
      · refine rt_or (Z := (List D)) ?_
        refine rt_op2B o_ne ?_
        refine rd_ali rfl ?_
        intro _
        refine rd_var rfl ?_
        refine ⟨_, _, _, rfl, rfl, rfl, fun t19 => ?_⟩
        refine ⟨fun z => [some (.f x_script), some (.f d1), some (.l z), some (.f r9.1), some (.f r12), some (.f r13), some (.l r14), none], r9.2, _, _, rfl, ⟨.inr rfl, ⟨.inr rfl, ⟨.inr rfl, ⟨.inr rfl, ⟨.inr rfl, ⟨.inr rfl, ⟨.inr rfl, ⟨.inl rfl, trivial⟩⟩⟩⟩⟩⟩⟩⟩, fun _ => ?_, fun p18 => ?_⟩
        · refine rt_not ?_
          refine rt_val ?_
          refine rd_callC [6] hec hE ?_
          refine ra_cons ?_
          refine rd_ali rfl ?_
          intro _
          refine ra_cons ?_
          refine rd_var rfl ?_
          intro _
          refine ra_cons ?_
          refine rd_ali rfl ?_
          intro _
          refine ra_nil ?_
          refine ⟨(r9.2, r9.1, (.lst r14)), _, [.ali 2, .own (.f r9.1), .own (.f (.lst r14))], rfl, ⟨rfl, rfl, (by decide), ⟨rfl, ⟨(by decide), ⟨_, rfl, rfl⟩, trivial⟩⟩⟩, rfl, fun r22 => ?_⟩
          refine ⟨_, _, rfl, rfl, fun t20 => ?_⟩
          exact ⟨_, rfl, ⟨.inr rfl, ⟨.inr rfl, ⟨.inr rfl, ⟨.inr rfl, ⟨.inr rfl, ⟨.inr rfl, ⟨.inr rfl, ⟨.inl rfl, trivial⟩⟩⟩⟩⟩⟩⟩⟩⟩
        · exact ⟨_, rfl, ⟨.inr rfl, ⟨.inr rfl, ⟨.inr rfl, ⟨.inr rfl, ⟨.inr rfl, ⟨.inr rfl, ⟨.inr rfl, ⟨.inl rfl, trivial⟩⟩⟩⟩⟩⟩⟩⟩⟩
      · refine ⟨_, _, rfl, fun _ => ?_, fun _ => ?_⟩
        · refine rs_ret ?_
          refine rd_bl ?_
          refine ⟨_, rfl, ?_⟩
          exact ⟨_, rfl, ⟨_, rfl, rfl, trivial⟩⟩
        · refine rs_next ?_
          refine rs_at [some (.f x_script), some (.f d1), some (.l p15.2), some (.f r9.1), some (.f r12), some (.f r13), some (.l r14), none] rfl ?_
          refine rs_seq ?_
          refine rs_for (Z := Unit) (R' := D) [7] ?_
          refine ri_lst ?_
          refine rd_ali rfl ?_
          refine ⟨_, _, rfl, rfl, fun ds25 _ => ?_⟩
          refine ⟨fun z24 => [some (.f x_script), some (.f d1), some (.l p15.2), some (.f r9.1), some (.f r12), some (.f r13), some (.l r14), none], _, _, _, rfl, ⟨.inr rfl, ⟨.inr rfl, ⟨.inr rfl, ⟨.inr rfl, ⟨.inr rfl, ⟨.inr rfl, ⟨.inr rfl, ⟨.inl rfl, trivial⟩⟩⟩⟩⟩⟩⟩⟩, fun _ => (by first | exact trivial | rfl | exact ⟨rfl, rfl⟩), fun z24 d23 => ?_, fun z24 => ?_⟩
          · refine rg_name (by show (7 : Nat) < 8; decide) rfl (hpv _ (by decide)) ?_
            refine rs_at [some (.f x_script), some (.f d1), some (.l p15.2), some (.f r9.1), some (.f r12), some (.f r13), some (.l r14), some (.f d23)] rfl ?_
            refine rs_if ?_
            refine rt_and (Z := Unit) ?_
            refine rt_op2B o_nn ?_
            refine rd_var rfl ?_
            intro _
            refine rd_non ?_
            refine ⟨_, _, _, rfl, rfl, rfl, fun t27 => ?_⟩
            refine ⟨fun z => [some (.f x_script), some (.f d1), some (.l p15.2), some (.f r9.1), some (.f r12), some (.f r13), some (.l r14), some (.f d23)], (), _, _, rfl, ⟨.inr rfl, ⟨.inr rfl, ⟨.inr rfl, ⟨.inr rfl, ⟨.inr rfl, ⟨.inr rfl, ⟨.inr rfl, ⟨.inr rfl, trivial⟩⟩⟩⟩⟩⟩⟩⟩, fun _ => ?_, fun p26 => ?_⟩
            · refine rt_not ?_
              refine rt_val ?_
              refine rd_isi .str ?_
              refine rd_var rfl ?_
              refine ⟨_, _, rfl, rfl, fun t29 => ?_⟩
              refine ⟨_, _, rfl, rfl, fun t28 => ?_⟩
              exact ⟨_, rfl, ⟨.inr rfl, ⟨.inr rfl, ⟨.inr rfl, ⟨.inr rfl, ⟨.inr rfl, ⟨.inr rfl, ⟨.inr rfl, ⟨.inr rfl, trivial⟩⟩⟩⟩⟩⟩⟩⟩⟩
            · refine ⟨_, _, rfl, fun _ => ?_, fun _ => ?_⟩
              · refine rs_ret ?_
                refine rd_bl ?_
                refine ⟨_, rfl, ?_⟩
                exact ⟨_, rfl, ⟨_, rfl, ⟨_, rfl, rfl, trivial⟩⟩⟩
              · refine rs_next ?_
                exact ⟨_, rfl, ⟨.inr rfl, ⟨.inr rfl, ⟨.inr rfl, ⟨.inr rfl, ⟨.inr rfl, ⟨.inr rfl, ⟨.inr rfl, ⟨.inl rfl, trivial⟩⟩⟩⟩⟩⟩⟩⟩⟩
          · refine rs_at [some (.f x_script), some (.f d1), some (.l p15.2), some (.f r9.1), some (.f r12), some (.f r13), some (.l r14), none] rfl ?_
            refine rs_seq ?_
            refine rs_drop ?_
            refine rd_reverse ?_
            refine rd_ali rfl ?_
            refine ⟨6, _, rfl, rfl, ?_⟩
            refine rs_at [some (.f x_script), some (.f d1), some (.l p15.2), some (.f r9.1), some (.f r12), some (.f r13), some (.l (r14).reverse), none] rfl ?_
            refine rs_seq ?_
            refine rs_drop ?_
            refine rd_append ?_
            refine rd_ali rfl ?_
            refine ⟨6, _, rfl, rfl, fun _ => ?_⟩
            refine rd_non ?_
            refine ⟨_, _, _, rfl, rfl, rfl, fun t31 => ?_⟩
            refine rs_at [some (.f x_script), some (.f d1), some (.l p15.2), some (.f r9.1), some (.f r12), some (.f r13), some (.l t31), none] rfl ?_
            refine rs_if ?_
            refine rt_or (Z := Unit) ?_
            refine rt_op2B o_ne ?_
            refine rd_call hec hE ?_
            refine ra_cons ?_
            refine rd_var rfl ?_
            intro _
            refine ra_nil ?_
            refine ⟨(r12), _, rfl, rfl, rfl, fun r34 => ?_⟩
            intro _
            refine rd_var rfl ?_
            refine ⟨_, _, _, rfl, rfl, rfl, fun t33 => ?_⟩
            refine ⟨fun z => [some (.f x_script), some (.f d1), some (.l p15.2), some (.f r9.1), some (.f r12), some (.f r13), some (.l t31), none], (), _, _, rfl, ⟨.inr rfl, ⟨.inr rfl, ⟨.inr rfl, ⟨.inr rfl, ⟨.inr rfl, ⟨.inr rfl, ⟨.inr rfl, ⟨.inl rfl, trivial⟩⟩⟩⟩⟩⟩⟩⟩, fun _ => ?_, fun p32 => ?_⟩
            · refine rt_op2B o_ne ?_
              refine rd_var rfl ?_
              intro _
              refine rd_var rfl ?_
              refine ⟨_, _, _, rfl, rfl, rfl, fun t35 => ?_⟩
              exact ⟨_, rfl, ⟨.inr rfl, ⟨.inr rfl, ⟨.inr rfl, ⟨.inr rfl, ⟨.inr rfl, ⟨.inr rfl, ⟨.inr rfl, ⟨.inl rfl, trivial⟩⟩⟩⟩⟩⟩⟩⟩⟩
            · refine ⟨_, _, rfl, fun _ => ?_, fun _ => ?_⟩
              · refine rs_ret ?_
                refine rd_bl ?_
                refine ⟨_, rfl, ?_⟩
                exact ⟨_, rfl, ⟨_, rfl, rfl, trivial⟩⟩
              · refine rs_next ?_
                exact ⟨_, rfl, ⟨.inr rfl, ⟨.inl rfl, ⟨.inl rfl, ⟨.inl rfl, ⟨.inl rfl, ⟨.inl rfl, ⟨.inl rfl, ⟨.inl rfl, trivial⟩⟩⟩⟩⟩⟩⟩⟩⟩
    · refine rs_at [some (.f x_script), none, none, none, none, none, none, none] rfl ?_
      refine rs_ret ?_
      refine rd_bl ?_
      refine ⟨_, rfl, ?_⟩
      exact ⟨_, rfl, rfl, trivial⟩
end
theorem all_mk {l : PySem.W.OpenLaw} {w : World} {K : PySem.W.Frag} {h : Heap} {mg : Str → Option Value} {fa : Addr} (X : K.In h) (G : h.Ns mainGlobals mg) (hfa : mg "law" = some (.ref fa))
    {f0 : Addr} {od0 an0 : Option Addr} {sl0 : Array (Option Value)} {oc0 kV0 dc0 pm0 cd0 ct0 : Value}
    (a0 : PySem.W.nsIn K mainGlobals "_law_store" = some (some (.ref f0))) (l0 : K.lookup f0 = some ⟨oc0, od0, .func (PySem.W.fnOf "_law_store" "_law_store" (defArgs s__law_store) (defBody s__law_store) (defScope s__law_store) .none kV0 dc0 pm0 an0 cd0 ct0), sl0⟩) (c0 : PySem.W.codeIn K cd0 "_law_store" = true) (k0 : PySem.W.keepIn K (.ref f0) = true)
    {f1 : Addr} {od1 an1 : Option Addr} {sl1 : Array (Option Value)} {oc1 kV1 dc1 pm1 cd1 ct1 : Value}
    (a1 : PySem.W.nsIn K mainGlobals "_law_take" = some (some (.ref f1))) (l1 : K.lookup f1 = some ⟨oc1, od1, .func (PySem.W.fnOf "_law_take" "_law_take" (defArgs s__law_take) (defBody s__law_take) (defScope s__law_take) .none kV1 dc1 pm1 an1 cd1 ct1), sl1⟩) (c1 : PySem.W.codeIn K cd1 "_law_take" = true) (k1 : PySem.W.keepIn K (.ref f1) = true)
    {f2 : Addr} {od2 an2 : Option Addr} {sl2 : Array (Option Value)} {oc2 kV2 dc2 pm2 cd2 ct2 : Value}
    (a2 : PySem.W.nsIn K mainGlobals "_law_some_names" = some (some (.ref f2))) (l2 : K.lookup f2 = some ⟨oc2, od2, .func (PySem.W.fnOf "_law_some_names" "_law_some_names" (defArgs s__law_some_names) (defBody s__law_some_names) (defScope s__law_some_names) .none kV2 dc2 pm2 an2 cd2 ct2), sl2⟩) (c2 : PySem.W.codeIn K cd2 "_law_some_names" = true) (k2 : PySem.W.keepIn K (.ref f2) = true)
    {f3 : Addr} {od3 an3 : Option Addr} {sl3 : Array (Option Value)} {oc3 kV3 dc3 pm3 cd3 ct3 : Value}
    (a3 : PySem.W.nsIn K mainGlobals "_law_flip" = some (some (.ref f3))) (l3 : K.lookup f3 = some ⟨oc3, od3, .func (PySem.W.fnOf "_law_flip" "_law_flip" (defArgs s__law_flip) (defBody s__law_flip) (defScope s__law_flip) .none kV3 dc3 pm3 an3 cd3 ct3), sl3⟩) (c3 : PySem.W.codeIn K cd3 "_law_flip" = true) (k3 : PySem.W.keepIn K (.ref f3) = true)
    {f4 : Addr} {od4 an4 : Option Addr} {sl4 : Array (Option Value)} {oc4 kV4 dc4 pm4 cd4 ct4 : Value}
    (a4 : PySem.W.nsIn K mainGlobals "_law_sheet" = some (some (.ref f4))) (l4 : K.lookup f4 = some ⟨oc4, od4, .func (PySem.W.fnOf "_law_sheet" "_law_sheet" (defArgs s__law_sheet) (defBody s__law_sheet) (defScope s__law_sheet) .none kV4 dc4 pm4 an4 cd4 ct4), sl4⟩) (c4 : PySem.W.codeIn K cd4 "_law_sheet" = true) (k4 : PySem.W.keepIn K (.ref f4) = true)
    {f5 : Addr} {od5 an5 : Option Addr} {sl5 : Array (Option Value)} {oc5 kV5 dc5 pm5 cd5 ct5 : Value}
    (a5 : PySem.W.nsIn K mainGlobals "_law_sheet_copy" = some (some (.ref f5))) (l5 : K.lookup f5 = some ⟨oc5, od5, .func (PySem.W.fnOf "_law_sheet_copy" "_law_sheet_copy" (defArgs s__law_sheet_copy) (defBody s__law_sheet_copy) (defScope s__law_sheet_copy) .none kV5 dc5 pm5 an5 cd5 ct5), sl5⟩) (c5 : PySem.W.codeIn K cd5 "_law_sheet_copy" = true) (k5 : PySem.W.keepIn K (.ref f5) = true)
    {f6 : Addr} {od6 an6 : Option Addr} {sl6 : Array (Option Value)} {oc6 kV6 dc6 pm6 cd6 ct6 : Value}
    (a6 : PySem.W.nsIn K mainGlobals "_law_signs" = some (some (.ref f6))) (l6 : K.lookup f6 = some ⟨oc6, od6, .func (PySem.W.fnOf "_law_signs" "_law_signs" (defArgs s__law_signs) (defBody s__law_signs) (defScope s__law_signs) .none kV6 dc6 pm6 an6 cd6 ct6), sl6⟩) (c6 : PySem.W.codeIn K cd6 "_law_signs" = true) (k6 : PySem.W.keepIn K (.ref f6) = true)
    {f7 : Addr} {od7 an7 : Option Addr} {sl7 : Array (Option Value)} {oc7 kV7 dc7 pm7 cd7 ct7 : Value}
    (a7 : PySem.W.nsIn K mainGlobals "behind_turn" = some (some (.ref f7))) (l7 : K.lookup f7 = some ⟨oc7, od7, .func (PySem.W.fnOf "behind_turn" "behind_turn" (defArgs s_behind_turn) (defBody s_behind_turn) (defScope s_behind_turn) .none kV7 dc7 pm7 an7 cd7 ct7), sl7⟩) (c7 : PySem.W.codeIn K cd7 "behind_turn" = true) (k7 : PySem.W.keepIn K (.ref f7) = true)
    {f8 : Addr} {od8 an8 : Option Addr} {sl8 : Array (Option Value)} {oc8 kV8 dc8 pm8 cd8 ct8 : Value}
    (a8 : PySem.W.nsIn K mainGlobals "rows_of" = some (some (.ref f8))) (l8 : K.lookup f8 = some ⟨oc8, od8, .func (PySem.W.fnOf "rows_of" "rows_of" (defArgs s_rows_of) (defBody s_rows_of) (defScope s_rows_of) .none kV8 dc8 pm8 an8 cd8 ct8), sl8⟩) (c8 : PySem.W.codeIn K cd8 "rows_of" = true) (k8 : PySem.W.keepIn K (.ref f8) = true)
    {f9 : Addr} {od9 an9 : Option Addr} {sl9 : Array (Option Value)} {oc9 kV9 dc9 pm9 cd9 ct9 : Value}
    (a9 : PySem.W.nsIn K mainGlobals "signs_of" = some (some (.ref f9))) (l9 : K.lookup f9 = some ⟨oc9, od9, .func (PySem.W.fnOf "signs_of" "signs_of" (defArgs s_signs_of) (defBody s_signs_of) (defScope s_signs_of) .none kV9 dc9 pm9 an9 cd9 ct9), sl9⟩) (c9 : PySem.W.codeIn K cd9 "signs_of" = true) (k9 : PySem.W.keepIn K (.ref f9) = true)
    {f10 : Addr} {od10 an10 : Option Addr} {sl10 : Array (Option Value)} {oc10 kV10 dc10 pm10 cd10 ct10 : Value}
    (a10 : PySem.W.nsIn K mainGlobals "_law_cell" = some (some (.ref f10))) (l10 : K.lookup f10 = some ⟨oc10, od10, .func (PySem.W.fnOf "_law_cell" "_law_cell" (defArgs s__law_cell) (defBody s__law_cell) (defScope s__law_cell) .none kV10 dc10 pm10 an10 cd10 ct10), sl10⟩) (c10 : PySem.W.codeIn K cd10 "_law_cell" = true) (k10 : PySem.W.keepIn K (.ref f10) = true)
    {f11 : Addr} {od11 an11 : Option Addr} {sl11 : Array (Option Value)} {oc11 kV11 dc11 pm11 cd11 ct11 : Value}
    (a11 : PySem.W.nsIn K mainGlobals "_law_walked" = some (some (.ref f11))) (l11 : K.lookup f11 = some ⟨oc11, od11, .func (PySem.W.fnOf "_law_walked" "_law_walked" (defArgs s__law_walked) (defBody s__law_walked) (defScope s__law_walked) .none kV11 dc11 pm11 an11 cd11 ct11), sl11⟩) (c11 : PySem.W.codeIn K cd11 "_law_walked" = true) (k11 : PySem.W.keepIn K (.ref f11) = true)
    {f12 : Addr} {od12 an12 : Option Addr} {sl12 : Array (Option Value)} {oc12 kV12 dc12 pm12 cd12 ct12 : Value}
    (a12 : PySem.W.nsIn K mainGlobals "law" = some (some (.ref f12))) (l12 : K.lookup f12 = some ⟨oc12, od12, .func (PySem.W.fnOf "law" "law" (defArgs s_law) (defBody s_law) (defScope s_law) .none kV12 dc12 pm12 an12 cd12 ct12), sl12⟩) (c12 : PySem.W.codeIn K cd12 "law" = true) (k12 : PySem.W.keepIn K (.ref f12) = true)
    (z_int : PySem.W.nsIn K mainGlobals "int" = some none)
    (z_isinstance : PySem.W.nsIn K mainGlobals "isinstance" = some none)
    (z_len : PySem.W.nsIn K mainGlobals "len" = some none)
    (z_list : PySem.W.nsIn K mainGlobals "list" = some none)
    (z_max : PySem.W.nsIn K mainGlobals "max" = some none)
    (z_min : PySem.W.nsIn K mainGlobals "min" = some none)
    (z_range : PySem.W.nsIn K mainGlobals "range" = some none)
    (z_str : PySem.W.nsIn K mainGlobals "str" = some none)
    : ∃ fd : FuncData, (∀ (s : Shared) (v : Value), BindsTo s fd ⟨[v], []⟩ [("script", v)]) ∧ ∀ base : Heap, K.In base → base.Ns mainGlobals mg → FnOk l.prog w K mg base CX0 4 fa fd ["script"] (spOf (A := D) (R := D) (fun _ => 0) (fun a => [.f a]) (fun a => m_law a) (fun r => .f r) (fun r => [none])) := by
  have e := hfa.symm.trans (PySem.W.mg_of X G a12)
  cases e
  have F0 := fun_mk (st := s__law_store) l0 c0 k0
  have b0 := F0.binds (ps := ["cell"]) fun _ _ _ _ _ _ us hl => match us, hl with | [_], _ => rfl
  have F1 := fun_mk (st := s__law_take) l1 c1 k1
  have b1 := F1.binds (ps := ["store", "many"]) fun _ _ _ _ _ _ us hl => match us, hl with | [_, _], _ => rfl
  have F2 := fun_mk (st := s__law_some_names) l2 c2 k2
  have b2 := F2.binds (ps := ["store", "many"]) fun _ _ _ _ _ _ us hl => match us, hl with | [_, _], _ => rfl
  have F3 := fun_mk (st := s__law_flip) l3 c3 k3
  have b3 := F3.binds (ps := ["signs", "at"]) fun _ _ _ _ _ _ us hl => match us, hl with | [_, _], _ => rfl
  have F4 := fun_mk (st := s__law_sheet) l4 c4 k4
  have b4 := F4.binds (ps := ["store", "most"]) fun _ _ _ _ _ _ us hl => match us, hl with | [_, _], _ => rfl
  have F5 := fun_mk (st := s__law_sheet_copy) l5 c5 k5
  have b5 := F5.binds (ps := ["sheet"]) fun _ _ _ _ _ _ us hl => match us, hl with | [_], _ => rfl
  have F6 := fun_mk (st := s__law_signs) l6 c6 k6
  have b6 := F6.binds (ps := ["sheet"]) fun _ _ _ _ _ _ us hl => match us, hl with | [_], _ => rfl
  have F7 := fun_mk (st := s_behind_turn) l7 c7 k7
  have b7 := F7.binds (ps := ["names", "signs", "name"]) fun _ _ _ _ _ _ us hl => match us, hl with | [_, _, _], _ => rfl
  have F8 := fun_mk (st := s_rows_of) l8 c8 k8
  have b8 := F8.binds (ps := ["names", "first", "nodes"]) fun _ _ _ _ _ _ us hl => match us, hl with | [_, _, _], _ => rfl
  have F9 := fun_mk (st := s_signs_of) l9 c9 k9
  have b9 := F9.binds (ps := ["sheet"]) fun _ _ _ _ _ _ us hl => match us, hl with | [_], _ => rfl
  have F10 := fun_mk (st := s__law_cell) l10 c10 k10
  have b10 := F10.binds (ps := ["script", "k"]) fun _ _ _ _ _ _ us hl => match us, hl with | [_, _], _ => rfl
  have F11 := fun_mk (st := s__law_walked) l11 c11 k11
  have b11 := F11.binds (ps := ["store", "sheet", "told"]) fun _ _ _ _ _ _ us hl => match us, hl with | [_, _, _], _ => rfl
  have F12 := fun_mk (st := s_law) l12 c12 k12
  exact ⟨PySem.W.fnOf "law" "law" (defArgs s_law) (defBody s_law) (defScope s_law) .none kV12 dc12 pm12 an12 cd12 ct12, fun s v => .of_eq rfl, fun base _ _ => ok_law ⟨_, _, F0, b0, PySem.W.mg_of X G a0, _, _, F1, b1, PySem.W.mg_of X G a1, _, _, F2, b2, PySem.W.mg_of X G a2, _, _, F3, b3, PySem.W.mg_of X G a3, _, _, F4, b4, PySem.W.mg_of X G a4, _, _, F5, b5, PySem.W.mg_of X G a5, _, _, F6, b6, PySem.W.mg_of X G a6, _, _, F7, b7, PySem.W.mg_of X G a7, _, _, F8, b8, PySem.W.mg_of X G a8, _, _, F9, b9, PySem.W.mg_of X G a9, _, _, F10, b10, PySem.W.mg_of X G a10, _, _, F11, b11, PySem.W.mg_of X G a11, _, _, F12, PySem.W.mg_none_of X G z_int, PySem.W.mg_none_of X G z_isinstance, PySem.W.mg_none_of X G z_len, PySem.W.mg_none_of X G z_list, PySem.W.mg_none_of X G z_max, PySem.W.mg_none_of X G z_min, PySem.W.mg_none_of X G z_range, PySem.W.mg_none_of X G z_str⟩⟩
end W

namespace W
open PySem VL
/-! draws -/
def St (l : List D) : Prop := ∃ g s c : Int, l = [.int g, .int s, .int c]
theorem take_ok {l : List D} {n : Nat} (h : St l) (h0 : 0 < n) (h1 : n < 1073741824) : Sat (m__law_take l (.int (n : Nat))) (fun r => (∃ k : Nat, r.1 = .int (k : Nat) ∧ k < n) ∧ St r.2) := by
  obtain ⟨g, s, c, rfl⟩ := h
  unfold m__law_take
  refine sat_ob (c := D.int g) rfl (sat_ob (c := decide (0 < g)) rfl (sat_if (fun hg => ?_) fun hg => ?_))
  · refine sat_ob (c := D.int g) rfl (sat_ob (mod_i (by omega)) (sat_ob (c := D.int g) rfl (sat_ob (fdiv_i (by omega)) (sat_ob (c := [.int (g / n), .int s, .int c]) rfl (sat_ok ⟨⟨(g % n).toNat, ?_, ?_⟩, _, _, _, rfl⟩)))))
    · have := Int.emod_nonneg g (show (n : Int) ≠ 0 by omega)
      show D.int (g % n) = _
      rw [Int.toNat_of_nonneg this]
    · have := Int.emod_nonneg g (show (n : Int) ≠ 0 by omega)
      have := Int.emod_lt_of_pos g (show (0 : Int) < n by omega)
      omega
  · refine sat_ob (c := D.int c) rfl (sat_ob (c := D.int (c + 1)) rfl (sat_ob (c := [.int g, .int s, .int (c + 1)]) rfl ?_))
    refine sat_ob (c := D.int s) rfl (sat_ob (c := D.int (c + 1)) rfl (sat_ob (mul_l (by decide)) (sat_ob (c := D.int (s + 7919 * (c + 1))) rfl ?_)))
    generalize s + 7919 * (c + 1) = x
    refine sat_ob (mul_r (by decide)) (sat_ob (mod_i (by decide)) ?_)
    have b1 := Int.emod_nonneg (x * 48271) (show (2147483647 : Int) ≠ 0 by decide)
    have b2 := Int.emod_lt_of_pos (x * 48271) (show (0 : Int) < 2147483647 by decide)
    generalize x * 48271 % 2147483647 = y at b1 b2
    refine sat_ob (mul_l ⟨by omega, by omega⟩) (sat_ob (mod_i (by decide)) ?_)
    generalize y * y % 2147483629 = u
    refine sat_ob (c := D.int (c + 1)) rfl (sat_ob (mul_l (by decide)) (sat_ob (c := D.int (u + 40692 * (c + 1))) rfl ?_))
    generalize u + 40692 * (c + 1) = v
    refine sat_ob (mul_r (by decide)) (sat_ob (mod_i (by decide)) ?_)
    generalize v * 69621 % 2147483587 = t
    refine sat_ob (fdiv_i (by decide)) (sat_ob (mod_i (by omega)) (sat_ok ⟨⟨(t / 8 % n).toNat, ?_, ?_⟩, _, _, _, rfl⟩))
    · have := Int.emod_nonneg (t / 8) (show (n : Int) ≠ 0 by omega)
      show D.int (t / 8 % n) = _
      rw [Int.toNat_of_nonneg this]
    · have := Int.emod_nonneg (t / 8) (show (n : Int) ≠ 0 by omega)
      have := Int.emod_lt_of_pos (t / 8) (show (0 : Int) < n by omega)
      omega
theorem store_ok (c : Int) : Sat (m__law_store (.int c)) St := by
  unfold m__law_store
  refine sat_rb (P := fun d => ∃ g, d = .int g) ?_ fun d ⟨g, e⟩ => ?_
  · refine sat_ob (c := D.int (10 ^ 18)) rfl (sat_ob (c := decide (10 ^ 18 ≤ c)) rfl (sat_if (fun _ => sat_ok ⟨_, rfl⟩) fun _ => sat_ok ⟨0, rfl⟩))
  · subst e
    exact sat_ob (mod_i (by decide)) (sat_ok ⟨_, _, _, rfl⟩)
theorem cell_ok (ns : List Int) (h : ns.length ≤ 63) (k : Nat) (hk0 : k ≤ 1000) : Sat (m__law_cell (.lst (ns.map .int)) (.int (k : Nat))) (fun d => ∃ c, d = .int c) := by
  unfold m__law_cell
  refine sat_ob (c := D.int (ns.map D.int).length) rfl (sat_ob (c := decide ((k : Int) < (ns.map D.int).length)) rfl (sat_if (fun hk => ?_) fun hk => ?_))
  · have hk : (k : Int) < (ns.map D.int).length := of_decide_eq_true hk
    have hk' : k < ns.length := by simpa using hk
    refine sat_ob (c := D.int ns[k]) (ix_l (by rw [List.getElem?_map, List.getElem?_eq_getElem hk']; rfl)) (sat_ok ⟨_, rfl⟩)
  · exact sat_ob (mul_l (by decide)) (sat_ob (mul_l ⟨by omega, by omega⟩) (sat_ob (mul_l (by decide)) (sat_ob rfl (sat_ob rfl (sat_ok ⟨_, rfl⟩)))))
/-! signs -/
def Bits (s : List Nat) : Prop := ∀ c ∈ s, c = 48 ∨ c = 49
def flipC (c : Nat) : Nat := if c = 48 then 49 else 48
def flipS (s : List Nat) (i : Nat) : List Nat := s.take i ++ [flipC (s.getD i 0)] ++ s.drop (i + 1)
theorem flipS_len {s : List Nat} {i : Nat} (h : i < s.length) : (flipS s i).length = s.length := by
  simp [flipS]; omega
theorem flipS_bits {s : List Nat} {i : Nat} (b : Bits s) : Bits (flipS s i) := by
  intro c hc
  simp only [flipS, List.mem_append, List.mem_singleton] at hc
  rcases hc with (hc | hc) | hc
  · exact b c (List.mem_of_mem_take hc)
  · subst hc; unfold flipC; split <;> simp
  · exact b c (List.mem_of_mem_drop hc)
theorem int_bit {c : Nat} (h : c = 48 ∨ c = 49) : intD (.str [c]) = some (.int (if c = 48 then (0 : Nat) else 1 : Nat)) := by
  have e0 : PySem.intText? (mkS [48]) = some 0 := by decide +kernel
  have e1 : PySem.intText? (mkS [49]) = some 1 := by decide +kernel
  rcases h with rfl | rfl
  · simp [intD, e0]
  · simp [intD, e1]
theorem flip_ok {s : List Nat} {i : Nat} (b : Bits s) (h : i < s.length) (hz : s.length ≤ 1000) : m__law_flip (.str s) (.int (i : Nat)) = .ok (.str (flipS s i)) := by
  refine of_sat ?_
  unfold m__law_flip
  have hc : s[i]? = some s[i] := List.getElem?_eq_getElem h
  have hb := b _ (List.getElem_mem h)
  refine sat_ob (c := ((i : Nat) : Int)) rfl (sat_ob (c := D.str (s.take i)) ?_ (sat_ob (ix_s hc (by omega)) (sat_ob (int_bit hb) (sat_ob (c := D.str [flipC s[i]]) ?_ ?_))))
  · show (if s.length ≤ 16777216 then _ else none) = _
    rw [if_pos (by omega), cut_to _ _ (by omega)]
  · rcases hb with e | e <;> rw [e] <;> rfl
  refine sat_ob (c := D.str (s.take i ++ [flipC s[i]])) (add_s (by simp; omega)) (sat_ob (c := D.int (i + 1)) rfl (sat_ob (c := (i : Int) + 1) rfl (sat_ob (c := D.str (s.drop (i + 1))) ?_ (sat_ob (c := D.str (flipS s i)) ?_ (sat_ok rfl)))))
  · show (if s.length ≤ 16777216 then _ else none) = _
    rw [if_pos (by omega), show ((i : Int) + 1) = ((i + 1 : Nat) : Int) by omega, cut_from _ _ (by omega)]
  · rw [add_s (by simp; omega)]
    simp only [flipS]
    rw [List.getD_eq_getElem?_getD, hc]; rfl
/-! names -/
def dn (l : List (List Nat)) : List D := l.map .str
theorem dn_flat (l : List (List Nat)) : (dn l).all D.flat = true := by
  simp [dn, List.all_eq_true]; intro x _; rfl
theorem index_ok {ns : List (List Nat)} (nd : ns.Nodup) {i : Nat} (h : i < ns.length) : indexD (.lst (dn ns)) (.str ns[i]) = some (.int (i : Nat)) := by
  show (if _ then _ else none) = _
  rw [if_pos ⟨rfl, dn_flat ns⟩]
  have : (dn ns).findIdx? (fun d => D.eqv d (.str ns[i])) = some i := by
    rw [List.findIdx?_eq_some_iff_getElem]
    refine ⟨by simpa [dn] using h, by simp [dn, D.eqv], fun j hj => ?_⟩
    simp only [dn, List.getElem_map, D.eqv, Bool.not_eq_true, beq_eq_false_iff_ne]
    intro e
    have := (List.getElem_inj nd).mp e
    omega
  rw [this]; rfl
theorem num_bit {c : Nat} (h : c = 48 ∨ c = 49) : strI (.int (1 - (if c = 48 then (0 : Nat) else 1 : Nat))) = some (.str [flipC c]) := by
  have e0 : numS 0 = [48] := by decide +kernel
  have e1 : numS 1 = [49] := by decide +kernel
  rcases h with rfl | rfl
  · show strI (.int 1) = _
    simp [strI, e1, flipC]
  · show strI (.int 0) = _
    simp [strI, e0, flipC]
theorem behind_ok {ns : List (List Nat)} (nd : ns.Nodup) {s : List Nat} {i : Nat} (b : Bits s) (hl : s.length = ns.length) (h : i < ns.length) (hz : s.length ≤ 1000) :
    m_behind_turn (.lst (dn ns)) (.str s) (.str ns[i]) = .ok (.str (flipS s i)) := by
  refine of_sat ?_
  unfold m_behind_turn
  have hi : i < s.length := by omega
  have hc : s[i]? = some s[i] := List.getElem?_eq_getElem hi
  have hb := b _ (List.getElem_mem hi)
  refine sat_ob (c := dn ns) rfl (sat_ob (index_ok nd h) (sat_ob (c := ((i : Nat) : Int)) rfl (sat_ob (c := D.str (s.take i)) ?_ (sat_ob (ix_s hc (by omega)) (sat_ob (int_bit hb) (sat_ob (c := D.int (1 - (if s[i] = 48 then (0 : Nat) else 1 : Nat))) rfl (sat_ob (num_bit hb) ?_)))))))
  · show (if s.length ≤ 16777216 then _ else none) = _
    rw [if_pos (by omega), cut_to _ _ (by omega)]
  refine sat_ob (c := D.str (s.take i ++ [flipC s[i]])) (add_s (by simp; omega)) (sat_ob (c := D.int (i + 1)) rfl (sat_ob (c := (i : Int) + 1) rfl (sat_ob (c := D.str (s.drop (i + 1))) ?_ (sat_ob (c := D.str (flipS s i)) ?_ (sat_ok rfl)))))
  · show (if s.length ≤ 16777216 then _ else none) = _
    rw [if_pos (by omega), show ((i : Int) + 1) = ((i + 1 : Nat) : Int) by omega, cut_from _ _ (by omega)]
  · rw [add_s (by simp; omega)]
    simp only [flipS]
    rw [List.getD_eq_getElem?_getD, hc]; rfl
end W
namespace W
open PySem VL
abbrev Turn := List Nat × Nat
def tD (p : Turn) : D := .tup [.str p.1, .int (p.2 : Nat)]
def nD (nodes : List (List Turn)) : List (List D) := nodes.map (·.map tD)
def NL (nodes : List (List Turn)) : D := .lst ((nD nodes).map .lst)
def rw_ (rows : List (List Nat)) (i : Nat) : List Nat := rows.getD i []
def nx (nodes : List (List Turn)) (i : Nat) : List Turn := nodes.getD i []
structure Good (ns rows : List (List Nat)) (nodes : List (List Turn)) : Prop where
  nd : ns.Nodup
  nl : ns.length ≤ 100
  rl : ∀ i, i < rows.length → (rw_ rows i).length = ns.length ∧ Bits (rw_ rows i)
  r0 : 0 < rows.length
  le : rows.length ≤ nodes.length
  nn : nodes.length ≤ 1000
  el : ∀ i, (nx nodes i).length ≤ 1000
  ed : ∀ i, i < rows.length → ∀ p ∈ nx nodes i, p.2 < rows.length ∧ ∃ a, ∃ h : a < ns.length, p.1 = ns[a] ∧ rw_ rows p.2 = flipS (rw_ rows i) a
inductive Reach (nodes : List (List Turn)) : Nat → Prop
  | zero : Reach nodes 0
  | step {i : Nat} {p : Turn} : Reach nodes i → p ∈ nx nodes i → Reach nodes p.2
section
variable {ns rows : List (List Nat)} {nodes : List (List Turn)} (g : Good ns rows nodes)
include g
theorem reach_lt : ∀ {i : Nat}, Reach nodes i → i < rows.length := fun h => by
  induction h with
  | zero => exact g.r0
  | step a b ih => exact (g.ed _ ih _ b).1
omit g in
theorem nodup_le : ∀ (n : Nat) (l : List Nat), l.Nodup → (∀ i ∈ l, i < n) → l.length ≤ n
  | 0, l, _, h => by
    cases l with
    | nil => exact Nat.le_refl _
    | cons a r => exact absurd (h a List.mem_cons_self) (Nat.not_lt_zero _)
  | n + 1, l, nd, h => by
    have ih := nodup_le n (l.erase n) (nd.erase n) fun i hi => by
      have h1 := (nd.mem_erase_iff).mp hi
      have := h i h1.2
      omega
    have := List.length_erase (a := n) (l := l)
    split at this <;> omega
theorem seen_le {seen : List Nat} (nd : seen.Nodup) (h : ∀ i ∈ seen, Reach nodes i) : seen.length ≤ rows.length := by
  exact nodup_le _ _ nd fun i hi => reach_lt g (h i hi)
end
theorem node_at {nodes : List (List Turn)} {i : Nat} (h : i < nodes.length) : ixD (NL nodes) (.int (i : Nat)) = some (.lst ((nx nodes i).map tD)) := by
  refine ix_l ?_
  simp [nD, nx, h]
/-! the dict -/
def FD (rows : List (List Nat)) (seen : List Nat) : List (D × D) := seen.map fun i => (D.int (i : Nat), D.str (rw_ rows i))
theorem fd_find (rows : List (List Nat)) (i : Nat) : ∀ seen : List Nat, findD (FD rows seen) (.int (i : Nat)) = if i ∈ seen then some (.str (rw_ rows i)) else none
  | [] => rfl
  | j :: r => by
    have ih := fd_find rows i r
    unfold findD FD at ih ⊢
    rw [List.map_cons, List.find?_cons]
    by_cases e : j = i
    · subst e
      simp [D.eqv]
    · have : D.eqv (D.int (j : Nat)) (.int (i : Nat)) = false := by simp [D.eqv]; omega
      rw [this]
      simp only [List.mem_cons]
      rw [ih]
      have e' : ¬ i = j := fun z => e z.symm
      simp [e']
theorem fd_get {rows : List (List Nat)} {seen : List Nat} {i : Nat} (h : i ∈ seen) : dgetD (.dct false (FD rows seen)) (.int (i : Nat)) = some (.str (rw_ rows i)) := by
  simp only [dgetD]
  rw [if_pos (show keyOk false (D.int (i : Nat)) = true from rfl), fd_find, if_pos h]
theorem fd_in {rows : List (List Nat)} {seen : List Nat} {i : Nat} : dinD (.int (i : Nat)) (.dct false (FD rows seen)) = some (decide (i ∈ seen)) := by
  simp only [dinD]
  rw [if_pos (show keyOk false (D.int (i : Nat)) = true from rfl), fd_find]
  by_cases h : i ∈ seen <;> simp [h]
theorem fd_put {rows : List (List Nat)} {seen : List Nat} {i : Nat} (h : i ∉ seen) (hl : seen.length < 16777216) : dputD false (FD rows seen) (.int (i : Nat)) (.str (rw_ rows i)) = some (FD rows (seen ++ [i])) := by
  unfold dputD
  rw [if_pos ⟨rfl, by simpa [FD] using hl⟩]
  unfold storeD
  have : ((FD rows seen).any fun kv => D.eqv kv.1 (.int (i : Nat))) = false := by
    rw [List.any_eq_false]
    intro kv hkv
    simp only [FD, List.mem_map] at hkv
    obtain ⟨j, hj, rfl⟩ := hkv
    simp only [D.eqv, beq_iff_eq]
    intro e
    have : j = i := by omega
    subst this; exact h hj
  rw [this]
  simp [FD]
def wD (w : List Nat) : List D := w.map fun i => .int (i : Nat)
theorem wD_plain (w : List Nat) : D.plains (wD w) = true := by
  rw [plains_iff]
  intro d hd
  simp only [wD, List.mem_map] at hd
  obtain ⟨_, _, rfl⟩ := hd; rfl
theorem wD_dep (w : List Nat) : D.deps (wD w) ≤ 60 := by
  refine deps_le fun d hd => ?_
  simp only [wD, List.mem_map] at hd
  obtain ⟨_, _, rfl⟩ := hd; exact Nat.zero_le _
section
variable {ns rows : List (List Nat)} {nodes : List (List Turn)} (g : Good ns rows nodes)
include g
/-- what stands in the middle of rows_of -/
structure Mid (c : Nat) (skip : Option Nat) (seen wait : List Nat) : Prop where
  nd : seen.Nodup
  ws : ∀ i ∈ wait, i ∈ seen
  re : ∀ i ∈ seen, Reach nodes i
  z : 0 ∈ seen
  cl : ∀ i ∈ seen, i ∉ wait → skip ≠ some i → ∀ p ∈ nx nodes i, p.2 ∈ seen
  ct : seen.length = wait.length + c
end
theorem rows_ok {ns rows : List (List Nat)} {nodes : List (List Turn)} (g : Good ns rows nodes) :
    Sat (m_rows_of (.lst (dn ns)) (.str (rw_ rows 0)) (NL nodes)) (fun d => ∃ seen : List Nat, d = .dct false (FD rows seen) ∧ seen.Nodup ∧ ∀ i, i ∈ seen ↔ Reach nodes i) := by
  unfold m_rows_of
  refine sat_if (fun _ => ?_) (fun h => absurd rfl h)
  let I : (List D × List (D × D)) → Prop := fun z => ∃ c seen wait, z.1 = wD wait ∧ z.2 = FD rows seen ∧ Mid (nodes := nodes) c none seen wait
  let μ : (List D × List (D × D)) → Nat := fun z => rows.length + z.1.length - z.2.length
  refine sat_rb (P := fun o => ∃ z, o = .nx z ∧ I z ∧ z.1 = []) (sat_while (I := I) (E := fun z => z.1 = []) (μ := μ) (fun z hz => ?_) _ _ ?_ ?_) fun o ho => ?_
  · obtain ⟨c, seen, wait, e1, e2, m⟩ := hz
    obtain ⟨z1, z2⟩ := z
    dsimp only at e1 e2
    subst e1 e2
    by_cases hw : wait = []
    · subst hw
      refine .inl ⟨of_sat (sat_ob (ne_nil rfl (Nat.zero_le _)) (sat_ok rfl)), rfl⟩
    · refine .inr ⟨of_sat (sat_ob (ne_nil (wD_plain _) (wD_dep _)) (sat_ok ?_)), ?_⟩
      · cases wait with
        | nil => exact absurd rfl hw
        | cons _ _ => rfl
      -- the last one
      obtain ⟨w0, here, rfl⟩ : ∃ w0 h, wait = w0 ++ [h] := ⟨wait.dropLast, wait.getLast hw, (List.dropLast_concat_getLast hw).symm⟩
      have hs : here ∈ seen := m.ws _ (by simp)
      have hr := m.re _ hs
      have hlt := reach_lt g hr
      have hp : popL (wD (w0 ++ [here])) = some (.int (here : Nat), wD w0) := by
        unfold popL wD
        simp
      refine sat_ob hp (sat_ob (node_at (Nat.lt_of_lt_of_le hlt g.le)) (sat_ob (c := (nx nodes here).map tD) rfl ?_))
      let J : Nat → (List (D × D) × List D) → Prop := fun n z => ∃ seen wait, z.1 = FD rows seen ∧ z.2 = wD wait ∧ Mid (nodes := nodes) (c + 1) (some here) seen wait ∧ here ∈ seen ∧ ∀ j, j < n → ∀ p, (nx nodes here)[j]? = some p → p.2 ∈ seen
      have j0 : J 0 (FD rows seen, wD w0) := by
        refine ⟨seen, w0, rfl, rfl, ⟨m.nd, fun i hi => m.ws i (by simp [hi]), m.re, m.z, fun i hi hw2 hne => m.cl i hi ?_ (by simp), ?_⟩, hs, fun j hj => absurd hj (Nat.not_lt_zero _)⟩
        · intro z
          rcases List.mem_append.mp z with z | z
          · exact hw2 z
          · exact hne (by rw [List.mem_singleton.mp z])
        · have := m.ct
          simp at this
          omega
      refine sat_rb (sat_forL (I := J) ((nx nodes here).map tD) _ 0 j0 fun n z d hd hJ => ?_) fun o ho => ?_
      · rw [Nat.zero_add] at hJ
        obtain ⟨z1, z2⟩ := z
        obtain ⟨se, wa, e1, e2, mm, hh, hn⟩ := hJ
        dsimp only at e1 e2
        subst e1 e2
        rw [List.getElem?_map] at hd
        cases ep : (nx nodes here)[n]? with
        | none => rw [ep] at hd; cases hd
        | some p =>
          rw [ep] at hd
          cases hd
          have pm : p ∈ nx nodes here := List.mem_of_getElem? ep
          obtain ⟨plt, a, ha, pa, pr⟩ := g.ed here hlt p pm
          have rl := g.rl here hlt
          refine sat_ob (c := (.str p.1, .int (p.2 : Nat))) rfl (sat_ob (fd_get hh) (sat_rbe (r := .str (rw_ rows p.2)) ?_ ?_))
          · have := behind_ok g.nd (s := rw_ rows here) (i := a) rl.2 rl.1 ha (by have := g.nl; omega)
            show m_behind_turn _ _ (.str p.1) = _
            rw [pa, pr]; exact this
          refine sat_ob fd_in (sat_if (fun hnot => ?_) fun hin => ?_)
          · have hnot : p.2 ∉ se := by simpa using hnot
            have lse := seen_le g mm.nd mm.re
            have nn := g.nn
            have le := g.le
            have ct := mm.ct
            refine sat_ob (fd_put hnot (by omega)) (sat_ob (ap_l (by simp [wD]; omega)) (sat_ok ⟨_, rfl, se ++ [p.2], wa ++ [p.2], rfl, by simp [wD], ⟨?_, ?_, ?_, ?_, ?_, ?_⟩, ?_, ?_⟩))
            · rw [List.nodup_append]
              exact ⟨mm.nd, by simp, fun x hx y hy => by simp at hy; subst hy; intro e; subst e; exact hnot hx⟩
            · intro i hi
              rcases List.mem_append.mp hi with hi | hi
              · exact List.mem_append_left _ (mm.ws i hi)
              · exact List.mem_append_right _ hi
            · intro i hi
              rcases List.mem_append.mp hi with hi | hi
              · exact mm.re i hi
              · rw [List.mem_singleton.mp hi]; exact .step hr pm
            · exact List.mem_append_left _ mm.z
            · intro i hi hw2 hne q hq
              rcases List.mem_append.mp hi with hi | hi
              · exact List.mem_append_left _ (mm.cl i hi (fun z => hw2 (List.mem_append_left _ z)) hne q hq)
              · exact absurd (List.mem_append_right _ hi) hw2
            · simp; omega
            · exact List.mem_append_left _ hh
            · intro j hj q hq
              by_cases e : j < n
              · exact List.mem_append_left _ (hn j e q hq)
              · have : j = n := by omega
                subst this
                rw [ep] at hq; cases hq
                exact List.mem_append_right _ (by simp)
          · have hin : p.2 ∈ se := by simpa using hin
            refine sat_ob (fd_get hin) (sat_ob ne_str (sat_if (fun h => by simp at h) fun _ => sat_ok ⟨_, rfl, se, wa, rfl, rfl, mm, hh, fun j hj q hq => ?_⟩))
            by_cases e : j < n
            · exact hn j e q hq
            · have : j = n := by omega
              subst this
              rw [ep] at hq; cases hq
              exact hin
      · obtain ⟨z', rfl, se, wa, e1, e2, mm, hh, hn⟩ := ho
        obtain ⟨z1, z2⟩ := z'
        dsimp only at e1 e2
        subst e1 e2
        have lse := seen_le g mm.nd mm.re
        have ct := mm.ct
        have ct0 := m.ct
        refine ⟨_, rfl, _, rfl, ⟨c + 1, se, wa, rfl, rfl, ⟨mm.nd, mm.ws, mm.re, mm.z, fun i hi hw2 _ p hpm => ?_, mm.ct⟩⟩, ?_⟩
        · by_cases e : i = here
          · subst e
            obtain ⟨j, hj, ej⟩ := List.getElem_of_mem hpm
            exact hn j (by simpa using hj) p (by rw [List.getElem?_eq_getElem hj, ej])
          · exact mm.cl i hi hw2 (fun z => e (Option.some.inj z).symm) p hpm
        · show rows.length + (wD wa).length - (FD rows se).length < rows.length + (wD (w0 ++ [here])).length - (FD rows seen).length
          simp only [wD, FD, List.length_map, List.length_append, List.length_singleton] at *
          omega
  · refine ⟨0, [0], [0], rfl, rfl, ⟨by simp, fun i hi => hi, fun i hi => ?_, by simp, fun i hi hn => absurd hi hn, rfl⟩⟩
    rw [List.mem_singleton.mp hi]; exact .zero
  · show rows.length + 1 - 1 < FU
    have := g.le
    have := g.nn
    unfold FU; omega
  · obtain ⟨z, rfl, ⟨c, seen, wait, e1, e2, m⟩, e3⟩ := ho
    refine sat_ok ⟨seen, by rw [e2], m.nd, fun i => ⟨m.re i, fun h => ?_⟩⟩
    have hw : wait = [] := by
      rw [e3] at e1
      cases wait with
      | nil => rfl
      | cons _ _ => cases e1
    subst hw
    induction h with
    | zero => exact m.z
    | step a b ih => exact m.cl _ ih (by simp) (by simp) _ b
end W
namespace W
open PySem VL
open Classical in
noncomputable def dueL (rows : List (List Nat)) (nodes : List (List Turn)) : List D := (List.range nodes.length).map fun i => if Reach nodes i then D.str (rw_ rows i) else .non
def sheetD (ni : Nat) (ns rows : List (List Nat)) (nodes : List (List Turn)) : D := .tup [.lst (dn (ns.take ni)), .lst (dn (ns.drop ni)), .str (rw_ rows 0), NL nodes]
theorem names_cat {ni : Nat} {ns : List (List Nat)} (h : ns.length ≤ 100) : catD (.lst (dn (ns.take ni))) (.lst (dn (ns.drop ni))) = some (dn ns) := by
  rw [cat_l (by simp [dn]; omega)]
  unfold dn
  rw [← List.map_append, List.take_append_drop]
def FL (rows : List (List Nat)) (n : Nat) (seen : List Nat) : List D := (List.range n).map fun i => if i ∈ seen then D.str (rw_ rows i) else .non
theorem fl_get {rows : List (List Nat)} {n : Nat} {seen : List Nat} {i : Nat} (h : i < n) : (FL rows n seen)[i]? = some (if i ∈ seen then D.str (rw_ rows i) else .non) := by
  simp [FL, h]
theorem fl_set {rows : List (List Nat)} {n : Nat} {seen : List Nat} {i : Nat} : (FL rows n seen).set i (.str (rw_ rows i)) = FL rows n (seen ++ [i]) := by
  refine List.ext_getElem? fun j => ?_
  rw [List.getElem?_set]
  by_cases e : i = j
  · subst e
    by_cases h : i < n
    · simp [FL, h]
    · simp [FL, h]
  · have : j ∈ seen ++ [i] ↔ j ∈ seen := by
      simp; intro z; exact absurd z.symm e
    simp only [FL, List.getElem?_map, if_neg e]
    by_cases h : j < n
    · have e' : ¬ j = i := fun z => e z.symm
      simp [h, e']
    · simp [h]
theorem due_eq {rows : List (List Nat)} {nodes : List (List Turn)} {seen : List Nat} (h : ∀ i, i ∈ seen ↔ Reach nodes i) : FL rows nodes.length seen = dueL rows nodes := by
  unfold FL dueL
  refine List.map_congr_left fun i _ => ?_
  by_cases r : Reach nodes i
  · rw [if_pos r, if_pos ((h i).mpr r)]
  · rw [if_neg r, if_neg fun z => r ((h i).mp z)]
theorem signs_ok {ni : Nat} {ns rows : List (List Nat)} {nodes : List (List Turn)} (g : Good ns rows nodes) : m_signs_of (sheetD ni ns rows nodes) = .ok (dueL rows nodes) := by
  refine of_sat ?_
  unfold m_signs_of
  have nn := g.nn
  refine sat_ob (c := (.lst (dn (ns.take ni)), .lst (dn (ns.drop ni)), .str (rw_ rows 0), NL nodes)) rfl (sat_ob (names_cat g.nl) (sat_rb (rows_ok g) fun d hd => ?_))
  obtain ⟨seen, rfl, nd, hs⟩ := hd
  refine sat_ob (c := D.int nodes.length) (by show some (D.int _) = _; simp [nD]) (sat_ob (rng0 (by omega)) (sat_rbe (fmR_map (g := fun d => match d with | .int i => if i.toNat ∈ seen then D.str (rw_ rows i.toNat) else .non | _ => .non) _ fun d hd => ?_) (sat_ok ?_)))
  · simp only [List.mem_map, List.mem_range] at hd
    obtain ⟨i, hi, rfl⟩ := hd
    refine of_sat (sat_ob (c := (false, FD rows seen)) rfl (sat_ob (c := if i ∈ seen then D.str (rw_ rows i) else .non) ?_ (sat_ok (by simp))))
    simp only [dget1D]
    rw [if_pos (show keyOk false (D.int (i : Nat)) = true from rfl), fd_find]
    by_cases h : i ∈ seen <;> simp [h]
  · rw [← due_eq hs]
    unfold FL
    rw [List.map_map]
    refine List.map_congr_left fun i _ => ?_
    simp
theorem sheet3 {ni : Nat} {ns rows : List (List Nat)} {nodes : List (List Turn)} : ixD (sheetD ni ns rows nodes) (.int 3) = some (NL nodes) := rfl
/-- the middle of _law_signs -/
structure Bid (nodes : List (List Turn)) (a : Nat) (seen : List Nat) : Prop where
  nd : seen.Nodup
  re : ∀ i ∈ seen, Reach nodes i
  z : 0 ∈ seen
  cl : ∀ j, j < a → ∀ i, seen[j]? = some i → ∀ p ∈ nx nodes i, p.2 ∈ seen
theorem lsigns_ok {ni : Nat} {ns rows : List (List Nat)} {nodes : List (List Turn)} (g : Good ns rows nodes) : m__law_signs (sheetD ni ns rows nodes) = .ok (.lst (dueL rows nodes)) := by
  refine of_sat ?_
  unfold m__law_signs
  have nn := g.nn
  have le := g.le
  have r0 := g.r0
  refine sat_ob (c := .lst (dn (ns.take ni))) rfl (sat_ob (c := .lst (dn (ns.drop ni))) rfl (sat_ob (names_cat g.nl) (sat_ob sheet3 (sat_ob (c := D.int nodes.length) (by show some (D.int _) = _; simp [nD]) ?_))))
  refine sat_ob (c := List.replicate nodes.length .non) ?_ (sat_ob (c := .str (rw_ rows 0)) rfl (sat_ob (c := FL rows nodes.length [0]) ?_ ?_))
  · unfold repL
    simp only [List.length_singleton, Nat.one_mul]
    rw [if_pos (by omega)]
    simp
  · have e := set_l (l := List.replicate nodes.length D.non) (i := 0) (d := .str (rw_ rows 0)) (by simp; omega)
    refine e.trans (congrArg some ?_)
    have : List.replicate nodes.length D.non = FL rows nodes.length [] := by
      refine List.ext_getElem? fun j => ?_
      by_cases h : j < nodes.length
      · simp [FL, h]
      · simp [FL, h]
    rw [this, fl_set]; rfl
  let I : (D × List D × List D) → Prop := fun z => ∃ (a : Nat) (seen : List Nat), z.1 = .int (a : Nat) ∧ z.2.1 = FL rows nodes.length seen ∧ z.2.2 = wD seen ∧ Bid nodes a seen
  let E : (D × List D × List D) → Prop := fun z => ∃ a : Nat, z.1 = .int (a : Nat) ∧ z.2.2.length ≤ a
  let μ : (D × List D × List D) → Nat := fun z => match z.1 with | .int a => rows.length - a.toNat | _ => 0
  refine sat_rb (P := fun o => ∃ z, o = .nx z ∧ I z ∧ E z) (sat_while (I := I) (E := E) (μ := μ) (fun z hz => ?_) _ _ ?_ ?_) fun o ho => ?_
  · obtain ⟨a, seen, e1, e2, e3, m⟩ := hz
    obtain ⟨z1, z2, z3⟩ := z
    dsimp only at e1 e2 e3
    subst e1 e2 e3
    have lse := seen_le g m.nd m.re
    have hl : (wD seen).length = seen.length := by simp [wD]
    by_cases ha : a < seen.length
    · refine .inr ⟨of_sat (sat_ob len_l (sat_ob (c := decide ((a : Int) < (wD seen).length)) rfl (sat_ok (decide_eq_true (by omega))))), ?_⟩
      have hs : seen[a]? = some seen[a] := List.getElem?_eq_getElem ha
      have hm : seen[a] ∈ seen := List.getElem_mem ha
      generalize seen[a] = here at hs hm
      have hr := m.re _ hm
      have hlt := reach_lt g hr
      refine sat_ob (ix_l (d := .int (here : Nat)) (by simp [wD, hs])) (sat_ob (c := D.int (a + 1)) rfl (sat_ob sheet3 (sat_ob (node_at (by omega)) (sat_ob (c := (nx nodes here).map tD) rfl ?_))))
      let J : Nat → (List D × List D) → Prop := fun n z => ∃ seen', z.1 = FL rows nodes.length seen' ∧ z.2 = wD seen' ∧ Bid nodes a seen' ∧ seen'[a]? = some here ∧ ∀ j, j < n → ∀ p, (nx nodes here)[j]? = some p → p.2 ∈ seen'
      refine sat_rb (P := fun o => ∃ z', o = .nx z' ∧ J ((nx nodes here).map tD).length z') ?_ fun o ho => ?_
      · have := sat_forL (I := J) ((nx nodes here).map tD) (FL rows nodes.length seen, wD seen) 0 ⟨seen, rfl, rfl, m, hs, fun j hj => absurd hj (Nat.not_lt_zero _)⟩ (f := fun z15 d14 => ob (un2 d14) fun p19 => ob (ixD (.lst z15.1) (.int (here : Nat))) fun t21 => ob (asLst (.lst (dn ns))) fun t23 => ob (indexD (.lst (dn ns)) p19.1) fun t22 => rb (m__law_flip t21 t22) fun r20 => rb (ob (ixD (.lst z15.1) p19.2) fun t30 => ob (isnD t30 .non) fun t29 => if t29 = true then ob (setL z15.1 p19.2 r20) fun t31 => ob (apL z15.2 p19.2) fun t32 => .ok (t31, t32) else .ok (z15.1, z15.2) : Res ((List D) × (List D))) fun z28 => (ob (ixD (.lst z28.1) p19.2) fun t34 => ob (neD t34 r20) fun t33 => if t33 = true then .ok (.rt D.non) else .ok (.nx (z28.1, z28.2)))) fun n z d hd hJ => ?_
        · rw [Nat.zero_add] at this; exact this
        rw [Nat.zero_add] at hJ ⊢
        obtain ⟨z1, z2⟩ := z
        obtain ⟨se, e1, e2, mm, hh, hn⟩ := hJ
        dsimp only at e1 e2
        subst e1 e2
        rw [List.getElem?_map] at hd
        cases ep : (nx nodes here)[n]? with
        | none => rw [ep] at hd; cases hd
        | some p =>
          rw [ep] at hd
          cases hd
          have pm : p ∈ nx nodes here := List.mem_of_getElem? ep
          obtain ⟨plt, b, hb, pa, pr⟩ := g.ed here hlt p pm
          have rl := g.rl here hlt
          have lse2 := seen_le g mm.nd mm.re
          have hin : here ∈ se := List.mem_of_getElem? hh
          refine sat_ob (c := (.str p.1, .int (p.2 : Nat))) rfl (sat_ob (ix_l (d := .str (rw_ rows here)) (by rw [fl_get (by omega), if_pos hin])) (sat_ob (c := dn ns) rfl (sat_ob (c := .int (b : Nat)) (by show indexD _ (.str p.1) = _; rw [pa]; exact index_ok g.nd hb) (sat_rbe (r := .str (rw_ rows p.2)) ?_ ?_))))
          · rw [pr]
            exact flip_ok rl.2 (by rw [rl.1]; exact hb) (by have := g.nl; omega)
          have step : ∀ se', p.2 ∈ se' → Bid nodes a se' → se'[a]? = some here → (∀ j, j < n → ∀ q, (nx nodes here)[j]? = some q → q.2 ∈ se') →
              Sat (ob (ixD (.lst (FL rows nodes.length se')) (.int (p.2 : Nat))) fun t34 => ob (neD t34 (.str (rw_ rows p.2))) fun t33 => if t33 = true then .ok (.rt D.non) else .ok (.nx (FL rows nodes.length se', wD se'))) (fun o => ∃ z', o = Fl.nx z' ∧ J (n + 1) z') := fun se' h1 h2 h3 h4 => by
            refine sat_ob (ix_l (d := .str (rw_ rows p.2)) (by rw [fl_get (by omega), if_pos h1])) (sat_ob ne_str (sat_if (fun h => by simp at h) fun _ => sat_ok ⟨_, rfl, se', rfl, rfl, h2, h3, fun j hj q hq => ?_⟩))
            by_cases e : j < n
            · exact h4 j e q hq
            · have : j = n := by omega
              subst this
              rw [ep] at hq; cases hq
              exact h1
          by_cases hp : p.2 ∈ se
          · refine sat_rbe (r := (FL rows nodes.length se, wD se)) (of_sat (sat_ob (ix_l (d := .str (rw_ rows p.2)) (by rw [fl_get (by omega), if_pos hp])) (sat_ob (c := false) rfl (sat_ok rfl)))) ?_
            exact step se hp mm hh hn
          · refine sat_rbe (r := (FL rows nodes.length (se ++ [p.2]), wD (se ++ [p.2]))) (of_sat (sat_ob (ix_l (d := .non) (by rw [fl_get (by omega), if_neg hp])) (sat_ob (c := true) rfl (sat_ob (set_l (by simp [FL]; omega)) (sat_ob (ap_l (by simp [wD]; omega)) (sat_ok ?_)))))) ?_
            · show (_, _) = _
              rw [fl_set]; simp [wD]
            · have al : a < se.length := by
                rcases Nat.lt_or_ge a se.length with h | h
                · exact h
                · rw [List.getElem?_eq_none h] at hh; cases hh
              refine step _ (by simp) ⟨?_, ?_, ?_, ?_⟩ (by rw [List.getElem?_append_left al]; exact hh) fun j hj q hq => List.mem_append_left _ (hn j hj q hq)
              · rw [List.nodup_append]
                exact ⟨mm.nd, by simp, fun x hx y hy => by simp at hy; subst hy; intro e; subst e; exact hp hx⟩
              · intro i hi
                rcases List.mem_append.mp hi with hi | hi
                · exact mm.re i hi
                · rw [List.mem_singleton.mp hi]; exact .step hr pm
              · exact List.mem_append_left _ mm.z
              · intro j hj i hi q hq
                rw [List.getElem?_append_left (by omega)] at hi
                exact List.mem_append_left _ (mm.cl j hj i hi q hq)
      · obtain ⟨z', rfl, se, e1, e2, mm, hh, hn⟩ := ho
        obtain ⟨z1, z2⟩ := z'
        dsimp only at e1 e2
        subst e1 e2
        refine ⟨_, rfl, _, rfl, ⟨a + 1, se, rfl, rfl, rfl, mm.nd, mm.re, mm.z, fun j hj i hi p hp => ?_⟩, ?_⟩
        · by_cases e : j < a
          · exact mm.cl j e i hi p hp
          · have : j = a := by omega
            subst this
            rw [hh] at hi; cases hi
            obtain ⟨j2, hj2, ej⟩ := List.getElem_of_mem hp
            exact hn j2 (by simpa using hj2) p (by rw [List.getElem?_eq_getElem hj2, ej])
        · show rows.length - ((a : Int) + 1).toNat < rows.length - (a : Int).toNat
          omega
    · exact .inl ⟨of_sat (sat_ob len_l (sat_ob (c := decide ((a : Int) < (wD seen).length)) rfl (sat_ok (decide_eq_false (by omega))))), a, rfl, by show (wD seen).length ≤ a; omega⟩
  · refine ⟨0, [0], rfl, rfl, rfl, by simp, fun i hi => ?_, by simp, fun j hj => absurd hj (Nat.not_lt_zero _)⟩
    rw [List.mem_singleton.mp hi]; exact .zero
  · show rows.length - (0 : Int).toNat < FU
    unfold FU; omega
  · obtain ⟨z, rfl, ⟨a, seen, e1, e2, e3, m⟩, b, e4, h5⟩ := ho
    refine sat_ok ?_
    rw [e1] at e4
    have hab : a = b := by injection e4 with e; omega
    subst hab
    rw [e3] at h5
    have h5 : seen.length ≤ a := by simpa [wD] using h5
    rw [e2, due_eq fun i => ⟨m.re i, fun h => ?_⟩]
    induction h with
    | zero => exact m.z
    | step x y ih =>
      obtain ⟨j, hj, ej⟩ := List.getElem_of_mem ih
      exact m.cl j (by omega) _ (by rw [List.getElem?_eq_getElem hj, ej]) _ y
end W
namespace W
open PySem VL
theorem dn_plain (l : List (List Nat)) : D.plains (dn l) = true := by
  rw [plains_iff]
  intro d hd
  simp only [dn, List.mem_map] at hd
  obtain ⟨_, _, rfl⟩ := hd; rfl
theorem dn_dep (l : List (List Nat)) : D.deps (dn l) ≤ 0 := deps_le fun d hd => by
  simp only [dn, List.mem_map] at hd
  obtain ⟨_, _, rfl⟩ := hd; exact Nat.le_refl _
theorem turns_plain (l : List Turn) : D.plains (l.map tD) = true := by
  rw [plains_iff]
  intro d hd
  simp only [List.mem_map] at hd
  obtain ⟨_, _, rfl⟩ := hd; rfl
theorem turns_dep (l : List Turn) : D.deps (l.map tD) ≤ 1 := deps_le fun d hd => by
  simp only [List.mem_map] at hd
  obtain ⟨_, _, rfl⟩ := hd; exact Nat.le_refl _
theorem nl_plain (nodes : List (List Turn)) : (NL nodes).plain = true := by
  simp only [NL, D.plain]
  rw [plains_iff]
  intro d hd
  simp only [nD, List.mem_map] at hd
  obtain ⟨_, ⟨l, _, rfl⟩, rfl⟩ := hd
  simp only [D.plain]; exact turns_plain l
theorem nl_dep (nodes : List (List Turn)) : (NL nodes).dep ≤ 3 := by
  simp only [NL, D.dep]
  have : D.deps ((nD nodes).map .lst) ≤ 2 := deps_le fun d hd => by
    simp only [nD, List.mem_map] at hd
    obtain ⟨_, ⟨l, _, rfl⟩, rfl⟩ := hd
    simp only [D.dep]
    have := turns_dep l
    omega
  omega
theorem sheet_plain (ni : Nat) (ns rows : List (List Nat)) (nodes : List (List Turn)) : (sheetD ni ns rows nodes).plain = true := by
  simp only [sheetD, D.plain, D.plains, Bool.and_eq_true, Bool.and_true, dn_plain, nl_plain]
theorem sheet_dep (ni : Nat) (ns rows : List (List Nat)) (nodes : List (List Turn)) : (sheetD ni ns rows nodes).dep ≤ 60 := by
  have a := dn_dep (ns.take ni)
  have b := dn_dep (ns.drop ni)
  have c := nl_dep nodes
  simp only [sheetD, D.dep, D.deps]
  omega
theorem due_at {rows : List (List Nat)} {nodes : List (List Turn)} {i : Nat} (h : i < nodes.length) (r : Reach nodes i) : (dueL rows nodes)[i]? = some (.str (rw_ rows i)) := by
  simp [dueL, h, r]
theorem due_mem {rows : List (List Nat)} {nodes : List (List Turn)} {d : D} (h : d ∈ dueL rows nodes) : d = .non ∨ ∃ s, d = .str s := by
  simp only [dueL, List.mem_map] at h
  obtain ⟨i, _, rfl⟩ := h
  by_cases r : Reach nodes i
  · rw [if_pos r]; exact .inr ⟨_, rfl⟩
  · rw [if_neg r]; exact .inl rfl
theorem due_plain (rows : List (List Nat)) (nodes : List (List Turn)) : D.plains (dueL rows nodes) = true := by
  rw [plains_iff]
  intro d hd
  rcases due_mem hd with rfl | ⟨s, rfl⟩ <;> rfl
theorem due_dep (rows : List (List Nat)) (nodes : List (List Turn)) : D.deps (dueL rows nodes) ≤ 0 := deps_le fun d hd => by
  rcases due_mem hd with rfl | ⟨s, rfl⟩ <;> exact Nat.le_refl _
theorem due_len (rows : List (List Nat)) (nodes : List (List Turn)) : (dueL rows nodes).length = nodes.length := by simp [dueL]
theorem copy_ok (ni : Nat) (ns rows : List (List Nat)) (nodes : List (List Turn)) : m__law_sheet_copy (sheetD ni ns rows nodes) = .ok (sheetD ni ns rows nodes) := by
  refine of_sat ?_
  unfold m__law_sheet_copy
  refine sat_ob (c := .lst (dn (ns.take ni))) rfl (sat_ob (c := dn (ns.take ni)) rfl (sat_ob (c := .lst (dn (ns.drop ni))) rfl (sat_ob (c := dn (ns.drop ni)) rfl (sat_ob (c := .str (rw_ rows 0)) rfl (sat_ob (c := NL nodes) rfl (sat_ob (c := (nD nodes).map .lst) rfl (sat_rbe (fmR_map (g := id) _ fun d hd => ?_) (sat_ok ?_))))))))
  · simp only [List.mem_map] at hd
    obtain ⟨l, _, rfl⟩ := hd
    exact of_sat (sat_ob (c := l) rfl (sat_ok rfl))
  · rw [List.map_id]; rfl
theorem walked_ok {ni : Nat} {ns rows : List (List Nat)} {nodes : List (List Turn)} (g : Good ns rows nodes) {store : List D} (hs : St store) :
    Sat (m__law_walked store (sheetD ni ns rows nodes) (.lst (dueL rows nodes))) (fun r => r.1 = .bl true ∧ St r.2) := by
  unfold m__law_walked
  refine sat_ob (c := .lst (dn (ns.take ni))) rfl (sat_ob (c := .lst (dn (ns.drop ni))) rfl (sat_ob (names_cat g.nl) (sat_ob (c := .str (rw_ rows 0)) rfl (sat_ob (rng0 (n := 30) (by decide)) ?_))))
  let I : (D × List D × D) → Prop := fun z => ∃ here : Nat, z.1 = .int (here : Nat) ∧ Reach nodes here ∧ St z.2.1 ∧ z.2.2 = .str (rw_ rows here)
  refine sat_rb (sat_forLr (I := I) (P := fun r => r.1 = .bl true ∧ St r.2) _ _ ⟨0, rfl, .zero, hs, rfl⟩ fun z d _ hz => ?_) fun o ho => ?_
  · obtain ⟨z1, z2, z3⟩ := z
    obtain ⟨here, e1, hr, st, e3⟩ := hz
    dsimp only at e1 st e3
    subst e1 e3
    have hlt := reach_lt g hr
    have le := g.le
    refine sat_ob (ix_l (due_at (by omega) hr)) (sat_ob ne_str (sat_if (fun h => by simp at h) fun _ => ?_))
    refine sat_ob sheet3 (sat_ob (node_at (by omega)) (sat_ob (eq_nil (turns_plain _)) (sat_if (fun _ => sat_ok (.inr ⟨_, rfl, rfl, st⟩)) fun hne => ?_)))
    have hpos : 0 < (nx nodes here).length := by
      cases e : nx nodes here with
      | nil => rw [e] at hne; exact absurd rfl hne
      | cons _ _ => simp
    refine sat_ob sheet3 (sat_ob (node_at (by omega)) (sat_ob sheet3 (sat_ob (node_at (by omega)) (sat_ob (c := D.int (nx nodes here).length) (by show some (D.int _) = _; simp) (sat_rb (take_ok st hpos (by have := g.el here; omega)) fun r hr2 => ?_)))))
    obtain ⟨⟨k, ek, hk⟩, st2⟩ := hr2
    obtain ⟨r1, r2⟩ := r
    dsimp only at ek st2
    subst ek
    have pm : (nx nodes here)[k] ∈ nx nodes here := List.getElem_mem hk
    have ep : (nx nodes here)[k]? = some (nx nodes here)[k] := List.getElem?_eq_getElem hk
    generalize (nx nodes here)[k] = p at pm ep
    obtain ⟨plt, b, hb, pa, pr⟩ := g.ed here hlt p pm
    have rl := g.rl here hlt
    refine sat_ob (ix_l (d := tD p) (by rw [List.getElem?_map, ep]; rfl)) (sat_ob (c := (.str p.1, .int (p.2 : Nat))) rfl (sat_ob (c := dn ns) rfl (sat_ob (c := .int (b : Nat)) (by show indexD _ (.str p.1) = _; rw [pa]; exact index_ok g.nd hb) (sat_rbe (r := .str (rw_ rows p.2)) ?_ (sat_ok (.inl ⟨_, rfl, p.2, rfl, .step hr pm, st2, rfl⟩))))))
    rw [pr]
    exact flip_ok rl.2 (by rw [rl.1]; exact hb) (by have := g.nl; omega)
  · rcases ho with ⟨z, rfl, here, e1, hr, st, e3⟩ | ⟨r, rfl, h1, h2⟩
    · exact sat_ok ⟨rfl, st⟩
    · exact sat_ok ⟨h1, h2⟩
theorem st_fl {l : List D} (h : St l) : (T.l l).fl = true := by
  obtain ⟨g, s, c, rfl⟩ := h; rfl
theorem law_of (hsheet : ∀ {store : List D} {most : Nat}, St store → (most = 12 ∨ most = 40) → Sat (m__law_sheet store (.int (most : Nat))) (fun r => ∃ ni ns rows nodes, r.1 = sheetD ni ns rows nodes ∧ Good ns rows nodes ∧ St r.2))
    (ns : List Int) (hl : ns.length ≤ 63) : m_law (.lst (ns.map .int)) = .ok (.bl true) := by
  refine of_sat ?_
  unfold m_law
  obtain ⟨n, hn, en⟩ : ∃ n : Nat, n ≤ 12 ∧ minD (.int (if (3 : Int) > (ns.map D.int).length then 3 else (ns.map D.int).length)) (.int 12) = some (.int (n : Nat)) := by
    refine ⟨(min (max ns.length 3) 12), by omega, ?_⟩
    show some (D.int _) = _
    congr 2
    simp only [List.length_map]
    split <;> split <;> omega
  refine sat_ob len_l (sat_ob (c := .int (if (3 : Int) > (ns.map D.int).length then 3 else (ns.map D.int).length)) rfl (sat_ob en (sat_ob (rng0 (by omega)) (sat_rb (sat_forL0 (I := fun _ => True) trivial fun z d hd _ => ?_) fun o ho => ?_))))
  · simp only [List.mem_map, List.mem_range] at hd
    obtain ⟨k, hk, rfl⟩ := hd
    refine sat_rb (cell_ok ns hl k (by omega)) fun c ⟨c0, ec⟩ => ?_
    subst ec
    refine sat_rb (store_ok c0) fun s hs => sat_rb (take_ok hs (n := 8) (by decide) (by decide)) fun r ⟨⟨j, ej, hj⟩, hs2⟩ => ?_
    obtain ⟨r1, r2⟩ := r
    dsimp only at ej hs2
    subst ej
    obtain ⟨most, hm, em⟩ : ∃ most : Nat, (most = 12 ∨ most = 40) ∧ ixD (.lst [(.int 12), (.int 12), (.int 12), (.int 12), (.int 12), (.int 12), (.int 12), (.int 40)]) (.int (j : Nat)) = some (.int (most : Nat)) := by
      match j, hj with
      | 0, _ => exact ⟨12, .inl rfl, rfl⟩
      | 1, _ => exact ⟨12, .inl rfl, rfl⟩
      | 2, _ => exact ⟨12, .inl rfl, rfl⟩
      | 3, _ => exact ⟨12, .inl rfl, rfl⟩
      | 4, _ => exact ⟨12, .inl rfl, rfl⟩
      | 5, _ => exact ⟨12, .inl rfl, rfl⟩
      | 6, _ => exact ⟨12, .inl rfl, rfl⟩
      | 7, _ => exact ⟨40, .inr rfl, rfl⟩
    refine sat_ob em (sat_rb (hsheet hs2 hm) fun r hr => ?_)
    obtain ⟨r1, r2⟩ := r
    obtain ⟨ni, nms, rows, nodes, e1, g, hs3⟩ := hr
    dsimp only at e1 hs3
    subst e1
    refine sat_rbe (copy_ok _ _ _ _) (sat_rbe (lsigns_ok g) (sat_rbe (signs_ok g) (sat_ob (c := true) rfl (sat_ob (c := true) rfl (sat_rb (P := fun p => p.1 = false) ?_ fun p hp => ?_)))))
    · refine sat_if (fun h => by cases h) fun _ => sat_ob (ne_same (due_plain rows nodes) (by have := due_dep rows nodes; simp only [D.dep]; omega)) (sat_rb (P := fun p => p.1 = false) (sat_if (fun h => by cases h) fun _ => ?_) fun p hp => sat_ok hp)
      refine sat_rb (walked_ok g hs3) fun r hr => ?_
      obtain ⟨r1, r2⟩ := r
      obtain ⟨h1, h2⟩ := hr
      dsimp only at h1 h2
      subst h1
      refine sat_if (fun _ => sat_ob (c := true) rfl (sat_ok rfl)) fun h => absurd ?_ h
      simp only [chk, List.all_cons, List.all_nil, Bool.and_true, st_fl h2]
      rfl
    · refine sat_if (fun h => by rw [hp] at h; cases h) fun _ => sat_ob (c := dueL rows nodes) rfl (sat_rb (sat_forL0 (I := fun _ => True) trivial fun z d hd _ => ?_) fun o ho => ?_)
      · rcases due_mem hd with rfl | ⟨s, rfl⟩
        · exact sat_ob (c := false) rfl (sat_rb (P := fun p => p.1 = false) (sat_if (fun h => by cases h) fun _ => sat_ok rfl) fun p hp => sat_if (fun h => by rw [hp] at h; cases h) fun _ => sat_ok ⟨_, rfl, trivial⟩)
        · exact sat_ob (c := true) rfl (sat_rb (P := fun p => p.1 = false) (sat_if (fun _ => sat_ob (c := true) rfl (sat_ob (c := true) rfl (sat_ok rfl))) fun h => absurd rfl h) fun p hp => sat_if (fun h => by rw [hp] at h; cases h) fun _ => sat_ok ⟨_, rfl, trivial⟩)
      · obtain ⟨z, rfl, _⟩ := ho
        refine sat_ob (ap_l (by rw [List.length_reverse, due_len]; have := g.nn; omega)) (sat_rbe (signs_ok g) (sat_ob (ne_same (due_plain rows nodes) (by have := due_dep rows nodes; simp only [D.dep]; omega)) (sat_rb (P := fun p => p.1 = false) (sat_if (fun h => by cases h) fun _ => sat_ob (ne_same (sheet_plain _ _ _ _) (sheet_dep _ _ _ _)) (sat_ok rfl)) fun p hp => sat_if (fun h => by rw [hp] at h; cases h) fun _ => sat_ok ⟨_, rfl, trivial⟩)))
  · obtain ⟨z, rfl, _⟩ := ho
    exact sat_ok rfl
end W
namespace W
open PySem VL
theorem sat_fmSi {Z : Type} {f : Z → D → Res (Option D × Z)} {I : Nat → Z → List D → Prop} : ∀ (ds : List D) (z0 : Z) (acc : List D) (n : Nat), I n z0 acc → (∀ i z d acc, ds[i]? = some d → I (n + i) z acc → Sat (f z d) (fun o => I (n + i + 1) o.2 (accD acc o.1))) → Sat (fmS ds z0 f) (fun p => I (n + ds.length) p.2 (acc ++ p.1))
  | [], z0, acc, n, h0, _ => ⟨_, rfl, by show I n z0 (acc ++ []); rw [List.append_nil]; exact h0⟩
  | d :: r, z0, acc, n, h0, h => by
    refine sat_rb (h 0 z0 d acc rfl h0) fun o ho => ?_
    have := sat_fmSi r o.2 (accD acc o.1) (n + 1) ho fun i z d acc e hi => by
      have := h (i + 1) z d acc (by simpa using e) (by rw [show n + (i + 1) = n + 1 + i by omega]; exact hi)
      rwa [show n + (i + 1) = n + 1 + i by omega] at this
    refine sat_rb this fun q hq => ⟨_, rfl, ?_⟩
    rw [show n + 1 + r.length = n + (d :: r).length by simp; omega] at hq
    cases e : o.1 with
    | none => rw [e] at hq; exact hq
    | some y =>
      rw [e] at hq
      have : acc ++ [y] ++ q.1 = acc ++ (y :: q.1) := by simp
      rw [← this]; exact hq
theorem sat_fmR {f : D → Res (Option D)} {P : D → D → Prop} : ∀ (ds : List D), (∀ d ∈ ds, Sat (f d) (fun o => ∀ y, o = some y → P d y)) → Sat (fmR ds f) (fun ys => ys.length ≤ ds.length ∧ ∀ y ∈ ys, ∃ d ∈ ds, P d y)
  | [], _ => ⟨[], rfl, Nat.le_refl _, fun y hy => absurd hy (by simp)⟩
  | d :: r, h => by
    refine sat_rb (h d List.mem_cons_self) fun o ho => ?_
    refine sat_rb (sat_fmR r fun d hd => h d (List.mem_cons_of_mem _ hd)) fun ys hys => ?_
    obtain ⟨hl, hy⟩ := hys
    cases o with
    | none => exact sat_ok ⟨by simp; omega, fun y hm => let ⟨d, a, b⟩ := hy y hm; ⟨d, List.mem_cons_of_mem _ a, b⟩⟩
    | some x =>
      refine sat_ok ⟨by simp; omega, fun y hm => ?_⟩
      rcases List.mem_cons.mp hm with e | e
      · subst e; exact ⟨d, List.mem_cons_self, ho _ rfl⟩
      · obtain ⟨d, a, b⟩ := hy y e
        exact ⟨d, List.mem_cons_of_mem _ a, b⟩
theorem er_nl (nodes : List (List Turn)) : T.er (.ll ((nD nodes).map T.l)) = NL nodes := by
  show D.lst (T.ers _) = _
  rw [ers_eq, List.map_map]; rfl
theorem nd_at (nodes : List (List Turn)) (j : Nat) : (nD nodes).getD j [] = (nx nodes j).map tD := by
  unfold nD nx
  rw [List.getD_eq_getElem?_getD, List.getD_eq_getElem?_getD, List.getElem?_map]
  cases nodes[j]? <;> rfl
theorem nd_len (nodes : List (List Turn)) : (nD nodes).length = nodes.length := by simp [nD]
theorem nd_set (nodes : List (List Turn)) (j : Nat) (l : List Turn) : (nD nodes).set j (l.map tD) = nD (nodes.set j l) := by
  simp [nD, List.map_set]
theorem nx_set {nodes : List (List Turn)} {j i : Nat} {l : List Turn} (h : j < nodes.length) : nx (nodes.set j l) i = if i = j then l else nx nodes i := by
  unfold nx
  rw [List.getD_eq_getElem?_getD, List.getD_eq_getElem?_getD, List.getElem?_set]
  by_cases e : i = j
  · subst e; simp [h]
  · rw [if_neg (fun z => e z.symm), if_neg e]
theorem nx_app {nodes : List (List Turn)} {i : Nat} {l : List Turn} : nx (nodes ++ [l]) i = if i < nodes.length then nx nodes i else if i = nodes.length then l else [] := by
  unfold nx
  rw [List.getD_eq_getElem?_getD, List.getD_eq_getElem?_getD]
  by_cases e : i < nodes.length
  · rw [List.getElem?_append_left e, if_pos e]
  · rw [List.getElem?_append_right (by omega), if_neg e]
    by_cases e2 : i = nodes.length
    · subst e2; simp
    · rw [if_neg e2]
      rw [List.getElem?_eq_none (by simp; omega)]; rfl
theorem rw_app {rows : List (List Nat)} {i : Nat} {l : List Nat} (h : i < rows.length) : rw_ (rows ++ [l]) i = rw_ rows i := by
  unfold rw_
  rw [List.getD_eq_getElem?_getD, List.getD_eq_getElem?_getD, List.getElem?_append_left h]
theorem rw_app2 {rows : List (List Nat)} {l : List Nat} : rw_ (rows ++ [l]) rows.length = l := by
  unfold rw_
  rw [List.getD_eq_getElem?_getD, List.getElem?_append_right (Nat.le_refl _)]; simp
theorem dn_at {l : List (List Nat)} {i : Nat} (h : i < l.length) : ixD (.lst (dn l)) (.int (i : Nat)) = some (.str (rw_ l i)) := by
  refine ix_l ?_
  simp [dn, rw_, h]
/-! names -/
theorem erase_dn (l : List (List Nat)) (k : Nat) : (dn l).eraseIdx k = dn (l.eraseIdx k) := by
  unfold dn
  rw [List.eraseIdx_eq_take_drop_succ, List.eraseIdx_eq_take_drop_succ, List.map_append, List.map_take, List.map_drop]
theorem erase_perm {l : List (List Nat)} {k : Nat} (h : k < l.length) : List.Perm l (l[k] :: l.eraseIdx k) := by
  rw [List.eraseIdx_eq_take_drop_succ]
  have e : l = l.take k ++ l[k] :: l.drop (k + 1) := by rw [List.getElem_cons_drop, List.take_append_drop]
  refine List.Perm.trans ?_ List.perm_middle
  rw [← e]
theorem some_ok {store : List D} (hs : St store) {n : Nat} (hn : n ≤ 15) : Sat (m__law_some_names store (.int (n : Nat))) (fun r => (∃ ns : List (List Nat), r.1 = dn ns ∧ ns.Nodup ∧ ns.length = n) ∧ St r.2) := by
  unfold m__law_some_names
  refine sat_ob (rng0 (by omega)) ?_
  let I : Nat → (List D × List D) → List D → Prop := fun i z acc => ∃ sp ac : List (List Nat), z.1 = dn sp ∧ acc = dn ac ∧ (ac ++ sp).Nodup ∧ ac.length = i ∧ i + sp.length = 15 ∧ St z.2
  refine sat_rb (sat_fmSi (I := I) ((List.range n).map fun k => .int (k : Nat)) _ [] 0 ?_ fun i z d acc hd hz => ?_) fun p hp => ?_
  · exact ⟨[q0, q1, q2, q3, q4, q5, q6, q7, q8, q9, q10, q11, q12, q13, q14], [], rfl, rfl, by decide, rfl, rfl, hs⟩
  · obtain ⟨z1, z2⟩ := z
    obtain ⟨sp, ac, e1, e2, nd, hl, h15, st⟩ := hz
    dsimp only at e1 st
    subst e1 e2
    have hi : i < n := by
      have := (List.getElem?_eq_some_iff.mp hd).1
      simpa using this
    have hpos : 0 < sp.length := by omega
    have hlen : (dn sp).length = sp.length := by simp [dn]
    refine sat_ob len_l ?_
    rw [hlen]
    refine sat_rb (take_ok st hpos (by omega)) fun r ⟨⟨k, ek, hk⟩, st2⟩ => ?_
    obtain ⟨r1, r2⟩ := r
    dsimp only at ek st2
    subst ek
    have e : popAtL (dn sp) (.int (k : Nat)) = some (.str sp[k], dn (sp.eraseIdx k)) := by
      unfold popAtL
      have h1 : L2.ixN (dn sp).length ((k : Nat) : Int) = some k := ixN_n (by omega)
      have h2 : (dn sp)[k]? = some (.str sp[k]) := by simp [dn, hk]
      simp only [h1, h2]
      rw [erase_dn]
    refine sat_ob e (sat_ok ⟨sp.eraseIdx k, ac ++ [sp[k]], rfl, by simp [accD, dn], ?_, by simp; omega, by rw [List.length_eraseIdx]; rw [if_pos hk]; omega, st2⟩)
    have pm : List.Perm (ac ++ sp) (ac ++ [sp[k]] ++ sp.eraseIdx k) := by
      rw [List.append_assoc]
      refine List.Perm.append_left _ ?_
      exact erase_perm hk
    exact pm.nodup_iff.mp nd
  · obtain ⟨p1, p2⟩ := p
    obtain ⟨sp, ac, e1, e2, nd, hl, h15, st⟩ := hp
    refine sat_ok ⟨⟨ac, by simpa using e2, (List.nodup_append.mp nd).1, by simpa using hl⟩, st⟩
/-! rows -/
theorem join_bits (bs : List Nat) : joinS [] (bs.map fun b => [b]) = bs := by
  induction bs with
  | nil => rfl
  | cons b r ih =>
    cases r with
    | nil => rfl
    | cons c r =>
      show [b] ++ [] ++ joinS [] ((c :: r).map fun b => [b]) = _
      rw [ih]; rfl
theorem strs_bits (bs : List Nat) : strsD (bs.map fun b => .str [b]) = some (bs.map fun b => [b]) := by
  induction bs with
  | nil => rfl
  | cons b r ih =>
    show (strsD (r.map fun b => .str [b])).map _ = _
    rw [ih]; rfl
theorem joind_bits {bs : List Nat} (h : bs.length ≤ 1000) : joinD (.str q16) (.lst (bs.map fun b => .str [b])) = some (.str bs) := by
  simp only [joinD, strs_bits]
  rw [if_pos]
  · rw [show joinS q16 = joinS [] from rfl, join_bits]
  · rw [List.map_map]
    have : ((bs.map (List.length ∘ fun b => [b])).sum) = bs.length := by
      induction bs with
      | nil => rfl
      | cons b r ih =>
        have := ih (by simp at h; omega)
        simp only [List.map_cons, List.sum_cons, this, Function.comp, List.length_cons, List.length_nil]
        omega
    rw [this]
    simp [q16]; omega
end W
namespace W
open PySem VL
/-- a sheet on its way -/
structure Pre (ns rows : List (List Nat)) (nodes : List (List Turn)) (k : Nat) : Prop where
  nd : ns.Nodup
  nl : ns.length ≤ 100
  n0 : 0 < ns.length
  rl : ∀ i, i < rows.length → (rw_ rows i).length = ns.length ∧ Bits (rw_ rows i)
  r0 : 0 < rows.length
  le : rows.length ≤ nodes.length
  nn : nodes.length ≤ k + 1
  el : ∀ i, (nx nodes i).length ≤ k
  ed : ∀ i, i < rows.length → ∀ p ∈ nx nodes i, p.2 < rows.length ∧ ∃ a, ∃ h : a < ns.length, p.1 = ns[a] ∧ rw_ rows p.2 = flipS (rw_ rows i) a
theorem Pre.good {ns rows : List (List Nat)} {nodes : List (List Turn)} {k : Nat} (p : Pre ns rows nodes k) (h : k ≤ 500) : Good ns rows nodes :=
  ⟨p.nd, p.nl, p.rl, p.r0, p.le, by have := p.nn; omega, fun i => by have := p.el i; omega, p.ed⟩
theorem Pre.up {ns rows : List (List Nat)} {nodes : List (List Turn)} {k j : Nat} (p : Pre ns rows nodes k) (h : k ≤ j) : Pre ns rows nodes j :=
  ⟨p.nd, p.nl, p.n0, p.rl, p.r0, p.le, by have := p.nn; omega, fun i => by have := p.el i; omega, p.ed⟩
/-- the names at a node -/
theorem at_names {nodes : List (List Turn)} {j : Nat} : fmR ((nx nodes j).map tD) (fun d => ob (un2 d) fun p => .ok (some p.1)) = .ok (dn ((nx nodes j).map (·.1))) := by
  rw [fmR_map (g := fun d => match d with | .tup [a, _] => a | _ => .non) _ fun d hd => ?_]
  · unfold dn
    rw [List.map_map, List.map_map]; rfl
  · simp only [List.mem_map] at hd
    obtain ⟨p, _, rfl⟩ := hd
    rfl
theorem notin_ok (a : List Nat) (l : List (List Nat)) : ∃ b, notInD (.str a) (.lst (dn l)) = some b := by
  refine ⟨!((dn l).any fun d => D.eqv d (.str a)), ?_⟩
  simp only [notInD, inD]
  rw [if_pos ⟨rfl, dn_flat l⟩]; rfl
theorem rw_eq {l : List (List Nat)} {i : Nat} (h : i < l.length) : rw_ l i = l[i] := by
  simp [rw_, h]
/-- a new node behind a turn -/
theorem Pre.grow {ns rows : List (List Nat)} {nodes : List (List Turn)} {k here a : Nat} (p : Pre ns rows nodes k) (eq : rows.length = nodes.length) (hh : here < nodes.length) (ha : a < ns.length) :
    Pre ns (rows ++ [flipS (rw_ rows here) a]) (nodes.set here (nx nodes here ++ [(ns[a], nodes.length)]) ++ [[]]) (k + 1) := by
  have rl := p.rl here (by omega)
  refine ⟨p.nd, p.nl, p.n0, fun i hi => ?_, by simp, by simp; omega, by have := p.nn; simp; omega, fun i => ?_, fun i hi q hq => ?_⟩
  · simp only [List.length_append, List.length_singleton] at hi
    by_cases e : i < rows.length
    · rw [rw_app e]; exact p.rl i e
    · have : i = rows.length := by omega
      subst this
      rw [rw_app2, flipS_len (by omega)]
      exact ⟨rl.1, flipS_bits rl.2⟩
  · rw [nx_app]
    simp only [List.length_set]
    split
    · rw [nx_set hh]
      split
      · rename_i e; subst e
        have := p.el i
        simp; omega
      · have := p.el i; omega
    · split <;> simp
  · simp only [List.length_append, List.length_singleton] at hi ⊢
    rw [nx_app] at hq
    simp only [List.length_set] at hq
    by_cases e : i < nodes.length
    · rw [if_pos e, nx_set hh] at hq
      rw [rw_app (show i < rows.length by omega)]
      have old : q ∈ nx nodes i → q.2 < rows.length + 1 ∧ ∃ b, ∃ h : b < ns.length, q.1 = ns[b] ∧ rw_ (rows ++ [flipS (rw_ rows here) a]) q.2 = flipS (rw_ rows i) b := fun hq => by
        obtain ⟨x, b, hb, y, z⟩ := p.ed i (by omega) q hq
        exact ⟨by omega, b, hb, y, by rw [rw_app x]; exact z⟩
      by_cases e2 : i = here
      · subst e2
        rw [if_pos rfl] at hq
        rcases List.mem_append.mp hq with hq | hq
        · exact old hq
        · rw [List.mem_singleton.mp hq]
          refine ⟨by show nodes.length < _; omega, a, ha, rfl, ?_⟩
          show rw_ _ nodes.length = _
          rw [← eq, rw_app2]
      · rw [if_neg e2] at hq; exact old hq
    · rw [if_neg e] at hq
      split at hq <;> cases hq
/-- one turn more -/
theorem Pre.turn {ns rows : List (List Nat)} {nodes : List (List Turn)} {k here a to : Nat} (p : Pre ns rows nodes k) (hh : here < nodes.length) (ha : a < ns.length) (ht : to < rows.length) (er : rw_ rows to = flipS (rw_ rows here) a) :
    Pre ns rows (nodes.set here (nx nodes here ++ [(ns[a], to)])) (k + 1) := by
  refine ⟨p.nd, p.nl, p.n0, p.rl, p.r0, by have := p.le; simpa using this, by have := p.nn; simp; omega, fun i => ?_, fun i hi q hq => ?_⟩
  · rw [nx_set hh]
    have := p.el i
    split
    · rename_i e; subst e; simp; omega
    · omega
  · rw [nx_set hh] at hq
    split at hq
    · rename_i e; subst e
      rcases List.mem_append.mp hq with hq | hq
      · exact p.ed i hi q hq
      · rw [List.mem_singleton.mp hq]; exact ⟨ht, a, ha, rfl, er⟩
    · exact p.ed i hi q hq
/-- a node that nothing leads to -/
theorem Pre.more {ns rows : List (List Nat)} {nodes : List (List Turn)} {k : Nat} (p : Pre ns rows nodes k) (t : Turn) : Pre ns rows (nodes ++ [[t]]) (k + 1) := by
  have le := p.le
  refine ⟨p.nd, p.nl, p.n0, p.rl, p.r0, by simp; omega, by have := p.nn; simp; omega, fun i => ?_, fun i hi q hq => ?_⟩
  · rw [nx_app]
    have := p.el i
    split
    · omega
    · split <;> simp
  · rw [nx_app, if_pos (by omega)] at hq
    exact p.ed i hi q hq
theorem nd_app (nodes : List (List Turn)) (l : List Turn) : nD nodes ++ [l.map tD] = nD (nodes ++ [l]) := by simp [nD]
theorem nd_app0 (nodes : List (List Turn)) : nD nodes ++ [[]] = nD (nodes ++ [[]]) := by simp [nD]
theorem dn_app (l : List (List Nat)) (a : List Nat) : dn l ++ [.str a] = dn (l ++ [a]) := by simp [dn]
theorem dn_len (l : List (List Nat)) : (dn l).length = l.length := by simp [dn]
theorem dn_at' {l : List (List Nat)} {i : Nat} (h : i < l.length) : ixD (.lst (dn l)) (.int (i : Nat)) = some (.str l[i]) := by
  rw [dn_at h, rw_eq h]
theorem add_n1 (a : Nat) : addD (.int (a : Nat)) (.int 1) = some (.int ((a + 1 : Nat) : Int)) := by
  rw [add_i, Int.natCast_add]; rfl
theorem more_ok {ns rows : List (List Nat)} {nodes : List (List Turn)} {n : Nat} {store : List D} (st : St store) (pre : Pre ns rows nodes n) (hn : n ≤ 200) :
    Sat (ob (lenD (.lst (dn ns))) fun t88 => rb (m__law_take store t88) fun r87 => ob (ixD (.lst (dn ns)) r87.1) fun t86 => ob (addD (.int ((nD nodes).length : Nat)) (.int 1)) fun t90 => rb (m__law_take r87.2 t90) fun r89 => (if ((nD nodes).map VL.T.l).length < 16777216 then .ok ((nD nodes ++ [[(.tup [t86, r89.1])]]), r89.2) else .fail)) (fun z : List (List D) × List D => St z.2 ∧ ∃ nodes', z.1 = nD nodes' ∧ Pre ns rows nodes' (n + 1)) := by
  have nn := pre.nn
  have pnl := pre.nl
  refine sat_ob len_l ?_
  rw [dn_len]
  refine sat_rb (take_ok st pre.n0 (by omega)) fun r hr => ?_
  obtain ⟨r3, r4⟩ := r
  obtain ⟨⟨a, ea, ha⟩, st⟩ := hr
  dsimp only at ea st
  subst ea
  refine sat_ob (dn_at' ha) ?_
  rw [nd_len]
  refine sat_ob (add_n1 _) ?_
  refine sat_rb (take_ok (n := nodes.length + 1) st (Nat.succ_pos _) (by omega)) fun r hr => ?_
  obtain ⟨r5, r6⟩ := r
  obtain ⟨⟨to, et, ht⟩, st⟩ := hr
  dsimp only at et st
  subst et
  refine sat_if (fun _ => sat_ok ⟨st, nodes ++ [[(ns[a], to)]], nd_app nodes [(ns[a], to)], pre.more _⟩) fun h => absurd ?_ h
  rw [List.length_map, nd_len]; omega
end W
namespace W
open PySem VL
theorem sheet_ok {store : List D} {most : Nat} (hs : St store) (hm : most = 12 ∨ most = 40) : Sat (m__law_sheet store (.int (most : Nat))) (fun r => ∃ ni ns rows nodes, r.1 = sheetD ni ns rows nodes ∧ Good ns rows nodes ∧ St r.2) := by
  have hm1 : 0 < most := by omega
  have hm2 : most ≤ 40 := by omega
  unfold m__law_sheet
  refine sat_rb (take_ok hs (n := 5) (by decide) (by decide)) fun r1 ⟨⟨ins, ei, hi⟩, hs⟩ => ?_
  obtain ⟨r11, r12⟩ := r1
  dsimp only at ei hs
  subst ei
  refine sat_rb (take_ok hs (n := 4) (by decide) (by decide)) fun r1 ⟨⟨j, ej, hj⟩, hs⟩ => ?_
  obtain ⟨r21, r22⟩ := r1
  dsimp only at ej hs
  subst ej
  obtain ⟨m, m0, m7, em⟩ : ∃ m : Nat, 0 < m ∧ m ≤ 7 ∧ ixD (.lst [(.int 3), (.int 3), (.int 3), (.int 7)]) (.int (j : Nat)) = some (.int (m : Nat)) := by
    match j, hj with
    | 0, _ => exact ⟨3, by decide, by decide, rfl⟩
    | 1, _ => exact ⟨3, by decide, by decide, rfl⟩
    | 2, _ => exact ⟨3, by decide, by decide, rfl⟩
    | 3, _ => exact ⟨7, by decide, by decide, rfl⟩
  refine sat_ob em (sat_rb (take_ok hs m0 (by omega)) fun r1 ⟨⟨o, eo, ho⟩, hs⟩ => ?_)
  obtain ⟨r31, r32⟩ := r1
  dsimp only at eo hs
  subst eo
  refine sat_ob (c := .int ((1 + o : Nat) : Int)) (by show some (D.int _) = _; congr 2) (sat_ob (c := .int ((ins + (1 + o) : Nat) : Int)) (by show some (D.int _) = _; congr 2) ?_)
  refine sat_rb (some_ok hs (n := ins + (1 + o)) (by omega)) fun r ⟨⟨ns, en, nd, nl⟩, hs⟩ => ?_
  obtain ⟨r41, r42⟩ := r
  dsimp only at en hs
  subst en
  -- the first row
  refine sat_ob (c := q16) rfl (sat_ob (c := dn ns) rfl ?_)
  let I : Nat → List D → List D → Prop := fun i z acc => St z ∧ ∃ bs : List Nat, acc = (bs.map fun b => .str [b]) ∧ Bits bs ∧ bs.length = i
  refine sat_rb (sat_fmSi (I := I) (dn ns) r42 [] 0 ⟨hs, [], rfl, fun c hc => absurd hc (by simp), rfl⟩ fun i z d acc hd hz => ?_) fun p hp => ?_
  · obtain ⟨st, bs, rfl, hb, hl⟩ := hz
    refine sat_rb (take_ok st (n := 2) (by decide) (by decide)) fun r ⟨⟨k, ek, hk⟩, st2⟩ => ?_
    obtain ⟨r1, r2⟩ := r
    dsimp only at ek st2
    subst ek
    obtain ⟨b, hb2, eb⟩ : ∃ b : Nat, (b = 48 ∨ b = 49) ∧ ixD (.str q17) (.int (k : Nat)) = some (.str [b]) := by
      match k, hk with
      | 0, _ => exact ⟨48, .inl rfl, rfl⟩
      | 1, _ => exact ⟨49, .inr rfl, rfl⟩
    refine sat_ob eb (sat_ok ⟨st2, bs ++ [b], by simp [accD], ?_, by simp; omega⟩)
    intro c hc
    rcases List.mem_append.mp hc with hc | hc
    · exact hb c hc
    · rw [List.mem_singleton.mp hc]; exact hb2
  obtain ⟨p1, p2⟩ := p
  obtain ⟨st, bs, eb, hb, hl⟩ := hp
  rw [List.nil_append] at eb
  dsimp only at eb st
  subst eb
  rw [dn_len, Nat.zero_add] at hl
  refine sat_ob (joind_bits (by omega)) (sat_rb (take_ok st hm1 (by omega)) fun r ⟨⟨n1, e1, h1⟩, st⟩ => ?_)
  obtain ⟨r51, r52⟩ := r
  dsimp only at e1 st
  subst e1
  -- nodes behind turns
  refine sat_ob (rng0 (by omega)) ?_
  let J : Nat → (List D × List (List D) × List D) → Prop := fun n z => St z.1 ∧ ∃ rows nodes, z.2.1 = nD nodes ∧ z.2.2 = dn rows ∧ rows.length = nodes.length ∧ Pre ns rows nodes n
  refine sat_rb (sat_forN (I := J) _ (r52, ([[]] : List (List D)), [.str bs]) 0 ⟨st, [bs], [[]], rfl, rfl, rfl, ?_⟩ fun n z d _ hz => ?_) fun z hz => ?_
  · refine ⟨nd, by omega, by omega, fun i hi => ?_, by simp, by simp, by simp, fun i => ?_, fun i hi q hq => ?_⟩
    · have : i = 0 := by simp at hi; omega
      subst this
      exact ⟨hl, hb⟩
    · match i with
      | 0 => exact Nat.le_refl _
      | i + 1 => exact Nat.le_refl _
    · have : i = 0 := by simp at hi; omega
      subst this
      cases hq
  · rw [Nat.zero_add] at hz ⊢
    obtain ⟨z1, z2, z3⟩ := z
    obtain ⟨st, rows, nodes, e1, e2, eq, pre⟩ := hz
    dsimp only at e1 e2 st
    subst e1 e2
    have np : 0 < nodes.length := by have := pre.r0; omega
    have nn := pre.nn
    have hn : n < most := by
      have := (List.getElem?_eq_some_iff.mp ‹_›).1
      simp at this
      omega
    have pnl := pre.nl
    simp only [nd_len]
    refine sat_rb (take_ok st np (by omega)) fun r ⟨⟨here, eh, hh⟩, st⟩ => ?_
    obtain ⟨r1, r2⟩ := r
    dsimp only at eh st
    subst eh
    refine sat_ob len_l ?_
    rw [dn_len]
    refine sat_ob (rng0 (by omega)) ?_
    refine sat_rb (sat_fmR (P := fun d y => y = d) _ fun d hd => ?_) fun ys ⟨hyl, hy⟩ => ?_
    · simp only [List.mem_map, List.mem_range] at hd
      obtain ⟨a, ha, rfl⟩ := hd
      refine sat_ob (dn_at' ha) (sat_ob (ixNd_n hh) ?_)
      rw [nd_at]
      obtain ⟨b, eb⟩ := notin_ok ns[a] ((nx nodes here).map (·.1))
      refine sat_rbe at_names (sat_ob eb (sat_if (fun _ => sat_ok fun y e => (Option.some.inj e).symm) fun _ => sat_ok fun y e => by cases e))
    have hy2 : ∀ y ∈ ys, ∃ a : Nat, a < ns.length ∧ y = .int (a : Nat) := fun y hm => by
      obtain ⟨d, hd, rfl⟩ := hy y hm
      simp only [List.mem_map, List.mem_range] at hd
      obtain ⟨a, ha, rfl⟩ := hd
      exact ⟨a, ha, rfl⟩
    have hyl2 : ys.length ≤ 100 := by simp at hyl; omega
    have pl : D.plains ys = true := by
      rw [plains_iff]; intro y hm
      obtain ⟨a, _, rfl⟩ := hy2 y hm; rfl
    have dp : D.deps ys ≤ 60 := deps_le fun y hm => by
      obtain ⟨a, _, rfl⟩ := hy2 y hm; exact Nat.zero_le _
    refine sat_ob (ne_nil pl dp) (sat_if (fun hne => ?_) fun _ => sat_ok ⟨st, rows, nodes, rfl, rfl, eq, pre.up (by omega)⟩)
    have yp : 0 < ys.length := by
      cases ys with
      | nil => simp at hne
      | cons _ _ => simp
    refine sat_ob len_l (sat_rb (take_ok st yp (by omega)) fun r ⟨⟨k, ek, hk⟩, st⟩ => ?_)
    obtain ⟨r3, r4⟩ := r
    dsimp only at ek st
    subst ek
    obtain ⟨a, ha, ea⟩ := hy2 ys[k] (List.getElem_mem hk)
    have el := pre.el here
    refine sat_ob (ix_l (d := .int (a : Nat)) (by rw [List.getElem?_eq_getElem hk, ea])) (sat_ob (ixNd_n hh) (sat_ob (dn_at' ha) ?_))
    rw [nd_at]
    have rl := pre.rl here (by omega)
    refine sat_ob (c := (nx nodes here ++ [(ns[a], nodes.length)]).map tD) (by rw [ap_l (by simp; omega)]; simp [tD]) (sat_ob (dn_at (by omega)) (sat_rbe (flip_ok rl.2 (by omega) (by omega)) (sat_ob (c := dn (rows ++ [flipS (rw_ rows here) a])) (by rw [ap_l (by rw [dn_len]; omega), dn_app]) ?_)))
    rw [nd_set, nd_app0]
    refine sat_if (fun _ => sat_ok ⟨st, _, _, rfl, rfl, by simp; exact eq, pre.grow eq hh ha⟩) fun h => absurd ?_ h
    simp [nd_len]; omega
  obtain ⟨z1, z2, z3⟩ := z
  obtain ⟨st, rows, nodes, e1, e2, eq, pre⟩ := hz
  dsimp only at e1 e2 st
  subst e1 e2
  have pre := pre.up (j := most) (by simp; omega)
  -- turns between nodes
  refine sat_ob (c := .int ((2 * most : Nat) : Int)) (by rw [mul_l (by decide)]; congr 2) (sat_rb (take_ok st (n := 2 * most) (by omega) (by omega)) fun r ⟨⟨n2, e2, h2⟩, st⟩ => ?_)
  obtain ⟨r61, r62⟩ := r
  dsimp only at e2 st
  subst e2
  refine sat_ob (rng0 (by omega)) ?_
  let J2 : Nat → (List D × List (List D)) → Prop := fun n z => St z.1 ∧ ∃ nodes, z.2 = nD nodes ∧ rows.length = nodes.length ∧ Pre ns rows nodes (most + n)
  refine sat_rb (sat_forN (I := J2) _ (r62, nD nodes) 0 ⟨st, nodes, rfl, eq, pre⟩ fun n z d _ hz => ?_) fun z hz => ?_
  · rw [Nat.zero_add] at hz ⊢
    obtain ⟨z1, z2⟩ := z
    obtain ⟨st, nodes, e1, eq, pre⟩ := hz
    dsimp only at e1 st
    subst e1
    have np : 0 < nodes.length := by have := pre.r0; omega
    have nn := pre.nn
    have hn : n < 2 * most := by
      have := (List.getElem?_eq_some_iff.mp ‹_›).1
      simp at this
      omega
    have pnl := pre.nl
    have pn0 := pre.n0
    simp only [nd_len]
    refine sat_rb (take_ok st np (by omega)) fun r ⟨⟨here, eh, hh⟩, st⟩ => ?_
    obtain ⟨r1, r2⟩ := r
    dsimp only at eh st
    subst eh
    refine sat_ob len_l ?_
    rw [dn_len]
    refine sat_rb (take_ok st pn0 (by omega)) fun r ⟨⟨a, ea, ha⟩, st⟩ => ?_
    obtain ⟨r3, r4⟩ := r
    dsimp only at ea st
    subst ea
    have rl := pre.rl here (by omega)
    refine sat_ob (rng0 (by omega)) ?_
    refine sat_rb (sat_fmR (P := fun d y => y = d ∧ ∃ to : Nat, d = .int (to : Nat) ∧ to < rows.length ∧ rw_ rows to = flipS (rw_ rows here) a) _ fun d hd => ?_) fun ys ⟨hyl, hy⟩ => ?_
    · simp only [List.mem_map, List.mem_range] at hd
      obtain ⟨to, ht, rfl⟩ := hd
      refine sat_ob (dn_at (by omega)) (sat_ob (dn_at (by omega)) (sat_rbe (flip_ok rl.2 (by omega) (by omega)) (sat_ob eq_str (sat_if (fun h => sat_ok fun y e => ⟨(Option.some.inj e).symm, to, rfl, by omega, by simpa using h⟩) fun _ => sat_ok fun y e => by cases e))))
    have hy2 : ∀ y ∈ ys, ∃ to : Nat, y = .int (to : Nat) ∧ to < rows.length ∧ rw_ rows to = flipS (rw_ rows here) a := fun y hm => by
      obtain ⟨d, _, rfl, h⟩ := hy y hm
      exact h
    have hyl2 : ys.length ≤ 1000 := by simp at hyl; omega
    have pl : D.plains ys = true := by
      rw [plains_iff]; intro y hm
      obtain ⟨a, rfl, _⟩ := hy2 y hm; rfl
    have dp : D.deps ys ≤ 60 := deps_le fun y hm => by
      obtain ⟨a, rfl, _⟩ := hy2 y hm; exact Nat.zero_le _
    obtain ⟨b, eb⟩ := notin_ok ns[a] ((nx nodes here).map (·.1))
    have nx_ : J2 (n + 1) (r4, nD nodes) := ⟨st, nodes, rfl, eq, pre.up (by omega)⟩
    refine sat_ob (ne_nil pl dp) (sat_rb (P := fun p => p.1 = true → 0 < ys.length) (sat_if (fun hne => ?_) fun _ => sat_ok fun h => by cases h) fun p hp => sat_if (fun hb2 => ?_) fun _ => sat_ok nx_)
    · refine sat_ob (dn_at' ha) (sat_ob (ixNd_n hh) ?_)
      rw [nd_at]
      refine sat_rbe at_names (sat_ob eb (sat_ok fun _ => ?_))
      cases ys with
      | nil => simp at hne
      | cons _ _ => simp
    · have yp := hp hb2
      refine sat_ob (ixNd_n hh) (sat_ob (dn_at' ha) (sat_ob len_l (sat_rb (take_ok st yp (by omega)) fun r ⟨⟨k, ek, hk⟩, st⟩ => ?_)))
      obtain ⟨r5, r6⟩ := r
      dsimp only at ek st
      subst ek
      obtain ⟨to, et, ht, er⟩ := hy2 ys[k] (List.getElem_mem hk)
      have el := pre.el here
      rw [nd_at]
      refine sat_ob (ix_l (d := .int (to : Nat)) (by rw [List.getElem?_eq_getElem hk, et])) (sat_ob (c := (nx nodes here ++ [(ns[a], to)]).map tD) (by rw [ap_l (by simp; omega)]; simp [tD]) ?_)
      rw [nd_set]
      exact sat_ok ⟨st, _, rfl, by simp; exact eq, pre.turn hh ha ht er⟩
  obtain ⟨z1, z2⟩ := z
  obtain ⟨st, nodes, e1, eq, pre⟩ := hz
  dsimp only at e1 st
  subst e1
  have pre := pre.up (j := 150) (by simp; omega)
  -- nodes that nothing leads to
  refine sat_rb (take_ok st (n := 4) (by decide) (by decide)) fun r ⟨⟨j, ej, hj⟩, st⟩ => ?_
  obtain ⟨r71, r72⟩ := r
  dsimp only at ej st
  subst ej
  obtain ⟨m, m2, em⟩ : ∃ m : Nat, m ≤ 2 ∧ ixD (.lst [(.int 0), (.int 0), (.int 1), (.int 2)]) (.int (j : Nat)) = some (.int (m : Nat)) := by
    match j, hj with
    | 0, _ => exact ⟨0, by decide, rfl⟩
    | 1, _ => exact ⟨0, by decide, rfl⟩
    | 2, _ => exact ⟨1, by decide, rfl⟩
    | 3, _ => exact ⟨2, by decide, rfl⟩
  obtain ⟨b, hb1, eb⟩ : ∃ b : Nat, b ≤ 1 ∧ intD (.bl (decide (((nD nodes).length : Int) < 38))) = some (.int (b : Nat)) := by
    cases decide (((nD nodes).length : Int) < 38)
    · exact ⟨0, by decide, rfl⟩
    · exact ⟨1, by decide, rfl⟩
  have hmb : m * b ≤ 2 := by
    have := Nat.mul_le_mul m2 hb1
    omega
  refine sat_ob em (sat_ob (c := decide (((nD nodes).length : Int) < 38)) rfl (sat_ob eb (sat_ob (c := .int ((m * b : Nat) : Int)) (by rw [mul_l ⟨by omega, by omega⟩]; congr 2) (sat_ob (rng0 (by omega)) ?_))))
  let J3 : Nat → (List (List D) × List D) → Prop := fun n z => St z.2 ∧ ∃ nodes, z.1 = nD nodes ∧ Pre ns rows nodes (150 + n)
  refine sat_rb (sat_forN (I := J3) _ (nD nodes, r72) 0 ⟨st, nodes, rfl, pre⟩ fun n z d _ hz => ?_) fun z hz => ?_
  · rw [Nat.zero_add] at hz ⊢
    obtain ⟨z1, z2⟩ := z
    obtain ⟨st, nodes, e1, pre⟩ := hz
    dsimp only at e1 st
    subst e1
    have hn : n < 2 := by
      have := (List.getElem?_eq_some_iff.mp ‹_›).1
      simp at this
      omega
    exact more_ok st pre (by show 150 + n ≤ 200; omega)
  obtain ⟨z1, z2⟩ := z
  obtain ⟨st, nodes, e1, pre⟩ := hz
  dsimp only at e1 st
  subst e1
  have hl2 : ins ≤ (dn ns).length := by rw [dn_len]; omega
  refine sat_ob (c := ((ins : Nat) : Int)) rfl (sat_ob (c := dn (ns.take ins)) ?_ (sat_ob (c := ((ins : Nat) : Int)) rfl (sat_ob (c := dn (ns.drop ins)) ?_ (sat_ob (dn_at (i := 0) pre.r0) (sat_ok ⟨ins, ns, rows, nodes, ?_, pre.good (by simp; omega), st⟩)))))
  · show some (cut _ _ _) = _
    rw [cut_to _ _ hl2]; simp [dn]
  · show some (cut _ _ _) = _
    rw [cut_from _ _ hl2]; simp [dn]
  · rw [er_nl]; rfl
theorem law_true (ns : List Int) (hl : ns.length ≤ 63) : m_law (.lst (ns.map .int)) = .ok (.bl true) := law_of (fun h m => sheet_ok h m) ns hl
end W

open PySem PySem.W PyProof.Rows
set_option maxHeartbeats 0 in
theorem PySem.Challenge.cw_anydelay_k30_signs_of_nodes_holds : PySem.Challenge.rw_anydelay_k30_signs_of_nodes.Holds := by
  w_on; o_law; k_head; (case hw => w_witness2)
  k_fill
  refine L2.walk_of (l := PySem.Challenge.rw_anydelay_k30_signs_of_nodes) (n := 63) (k := 4) (x := "script") (CX := fun _ => L2.CX0) (sp := fun w => (VL.spOf (A := VL.D) (R := VL.D) (fun _ => 0) (fun a => [.f a]) (fun a => W.m_law a) (fun r => .f r) (fun r => [none]))) rfl (by decide) rfl ⟨rfl, by decide, by decide⟩ (fun w h Y => PySem.W.kIn_of Y) ?F (fun _ _ a ns hl _ hS => VL.law_end (by rfl) hl hS (W.law_true ns hl)) (fun _ _ _ _ _ h => h)
  case F =>
    intro w mg fa h KX G hmg
    refine' W.all_mk KX G hmg ?a0 ?l0 ?c0 ?k0 ?a1 ?l1 ?c1 ?k1 ?a2 ?l2 ?c2 ?k2 ?a3 ?l3 ?c3 ?k3 ?a4 ?l4 ?c4 ?k4 ?a5 ?l5 ?c5 ?k5 ?a6 ?l6 ?c6 ?k6 ?a7 ?l7 ?c7 ?k7 ?a8 ?l8 ?c8 ?k8 ?a9 ?l9 ?c9 ?k9 ?a10 ?l10 ?c10 ?k10 ?a11 ?l11 ?c11 ?k11 ?a12 ?l12 ?c12 ?k12 ?z_int ?z_isinstance ?z_len ?z_list ?z_max ?z_min ?z_range ?z_str
    (case a0 => k_is)
    (case l0 => k_is)
    (case c0 => k_is)
    (case k0 => k_is)
    (case a1 => k_is)
    (case l1 => k_is)
    (case c1 => k_is)
    (case k1 => k_is)
    (case a2 => k_is)
    (case l2 => k_is)
    (case c2 => k_is)
    (case k2 => k_is)
    (case a3 => k_is)
    (case l3 => k_is)
    (case c3 => k_is)
    (case k3 => k_is)
    (case a4 => k_is)
    (case l4 => k_is)
    (case c4 => k_is)
    (case k4 => k_is)
    (case a5 => k_is)
    (case l5 => k_is)
    (case c5 => k_is)
    (case k5 => k_is)
    (case a6 => k_is)
    (case l6 => k_is)
    (case c6 => k_is)
    (case k6 => k_is)
    (case a7 => k_is)
    (case l7 => k_is)
    (case c7 => k_is)
    (case k7 => k_is)
    (case a8 => k_is)
    (case l8 => k_is)
    (case c8 => k_is)
    (case k8 => k_is)
    (case a9 => k_is)
    (case l9 => k_is)
    (case c9 => k_is)
    (case k9 => k_is)
    (case a10 => k_is)
    (case l10 => k_is)
    (case c10 => k_is)
    (case k10 => k_is)
    (case a11 => k_is)
    (case l11 => k_is)
    (case c11 => k_is)
    (case k11 => k_is)
    (case a12 => k_is)
    (case l12 => k_is)
    (case c12 => k_is)
    (case k12 => k_is)
    (case z_int => k_is)
    (case z_isinstance => k_is)
    (case z_len => k_is)
    (case z_list => k_is)
    (case z_max => k_is)
    (case z_min => k_is)
    (case z_range => k_is)
    (case z_str => k_is)

