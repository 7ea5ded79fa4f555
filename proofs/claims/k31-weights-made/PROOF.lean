import PyProof.Rows.All
import Wide.All
import OpenK.AllK
import Wide.FinOn
import HandS.ForMost
import HandS.IsInst
import HandS.Wide
import HandS.Deep
import HandS.Walk
import HandS.Evl
import PyProof.ReprRoads
import HandS.Codes
import HandS.TupAny
import HandS.Conv
import HandS.Style
import KE.GoesEnum
import KE.SortData
import HandS.WideBits
import HandS.RevTup
import HandS.OwnEq
import HandS.MakeKwOnly
import HandS.Defaults
import PySem.Challenge.RW_everysite_k31_weights_made
set_option Elab.async false
set_option linter.all false
set_option maxRecDepth 100000
set_option maxHeartbeats 2000000
namespace Pd
open PySem PySem.Spec PyProof.Rows L2

/-! ### data, and which value of the heap is which datum -/
inductive Dt where
  | non
  | bl (b : Bool)
  | int (i : Int)
  | str (x : Str)
  | tup (ds : List Dt)
  | lst (ds : List Dt)
  | scr (ns : List Int)
  | dct (kvs : List (Key × V))
  | raw (v : V)
  | obj (C : Addr) (fs : List (Str × Dt))

mutual
inductive Dr (K : PySem.W.Frag) (G : Hp) : V → Dt → Prop
  | non : Dr K G .non .non
  | bl (b : Bool) : Dr K G (.bl b) (.bl b)
  | int (i : Int) : Dr K G (.int i) (.int i)
  | str (x : Str) : Dr K G (.str x) (.str x)
  | tup {a : Addr} {xs : List V} {ds : List Dt} : SqT K G a xs → DrAll K G xs ds → Dr K G (.ref a) (.tup ds)
  | lst {a : Addr} {xs : List V} {ds : List Dt} : G a = some (.lst xs) → DrAll K G xs ds → Dr K G (.ref a) (.lst ds)
  | scr {a : Addr} {ns : List Int} : SqL K G a (ns.map V.int) → Dr K G (.ref a) (.scr ns)
  | dct {a : Addr} {kvs : List (Key × V)} : G a = some (.dK kvs) → Dr K G (.ref a) (.dct kvs)
  | raw (v : V) : Dr K G v (.raw v)
  | obj {a C dx : Addr} {fs : List (Str × V)} {fds : List (Str × Dt)} : G a = some (.ins C dx fs) → G dx = some (.own a) → DrFs K G fs fds → Dr K G (.ref a) (.obj C fds)
inductive DrAll (K : PySem.W.Frag) (G : Hp) : List V → List Dt → Prop
  | nil : DrAll K G [] []
  | cons {v : V} {vs : List V} {d : Dt} {ds : List Dt} : Dr K G v d → DrAll K G vs ds → DrAll K G (v :: vs) (d :: ds)
inductive DrFs (K : PySem.W.Frag) (G : Hp) : List (Str × V) → List (Str × Dt) → Prop
  | nil : DrFs K G [] []
  | cons {f : Str} {v : V} {d : Dt} {fs : List (Str × V)} {ds : List (Str × Dt)} : Dr K G v d → DrFs K G fs ds → DrFs K G ((f, v) :: fs) ((f, d) :: ds)
end

section
variable {K : PySem.W.Frag} {G G' H : Hp}
theorem sqT_mono {a : Addr} {xs : List V} (e : Same G G') (h : SqT K G a xs) : SqT K G' a xs := by
  rcases h with (h | ⟨o, h⟩) | h
  · exact .inl (.inl (e _ _ h))
  · exact .inl (.inr ⟨o, e _ _ h⟩)
  · exact .inr h
mutual
theorem Dr.mono (e : Same G G') : ∀ {v : V} {d : Dt}, Dr K G v d → Dr K G' v d
  | _, _, .non => .non
  | _, _, .bl b => .bl b
  | _, _, .int i => .int i
  | _, _, .str x => .str x
  | _, _, .tup h t => .tup (sqT_mono e h) (DrAll.mono e t)
  | _, _, .lst h t => .lst (e _ _ h) (DrAll.mono e t)
  | _, _, .scr h => .scr (e.seq h)
  | _, _, .dct h => .dct (e _ _ h)
  | _, _, .raw v => .raw v
  | _, _, .obj h1 h2 t => .obj (e _ _ h1) (e _ _ h2) (DrFs.mono e t)
theorem DrAll.mono (e : Same G G') : ∀ {vs : List V} {ds : List Dt}, DrAll K G vs ds → DrAll K G' vs ds
  | _, _, .nil => .nil
  | _, _, .cons h t => .cons (Dr.mono e h) (DrAll.mono e t)
theorem DrFs.mono (e : Same G G') : ∀ {fs : List (Str × V)} {ds : List (Str × Dt)}, DrFs K G fs ds → DrFs K G' fs ds
  | _, _, .nil => .nil
  | _, _, .cons h t => .cons (Dr.mono e h) (DrFs.mono e t)
end
theorem DrAll.length : ∀ {vs : List V} {ds : List Dt}, DrAll K G vs ds → vs.length = ds.length
  | _, _, .nil => rfl
  | _, _, .cons _ t => by rw [List.length_cons, List.length_cons, DrAll.length t]
theorem DrAll.get : ∀ {vs : List V} {ds : List Dt} {i : Nat} {v : V}, DrAll K G vs ds → vs[i]? = some v → ∃ d, ds[i]? = some d ∧ Dr K G v d
  | _, _, _, _, .nil, e => by simp at e
  | _, _, 0, _, .cons r _, e => by simp at e; subst e; exact ⟨_, rfl, r⟩
  | _, _, i + 1, v, .cons _ t, e => by
    obtain ⟨u, h1, h2⟩ := DrAll.get (i := i) (v := v) t (by simpa using e)
    exact ⟨u, by simpa using h1, h2⟩
theorem DrAll.getD : ∀ {vs : List V} {ds : List Dt} {i : Nat} {d : Dt}, DrAll K G vs ds → ds[i]? = some d → ∃ v, vs[i]? = some v ∧ Dr K G v d
  | _, _, _, _, .nil, e => by simp at e
  | _, _, 0, _, .cons r _, e => by simp at e; subst e; exact ⟨_, rfl, r⟩
  | _, _, i + 1, v, .cons _ t, e => by
    obtain ⟨u, h1, h2⟩ := DrAll.getD (i := i) (d := v) t (by simpa using e)
    exact ⟨u, by simpa using h1, h2⟩
theorem DrAll.append : ∀ {xs ys : List V} {ds es : List Dt}, DrAll K G xs ds → DrAll K G ys es → DrAll K G (xs ++ ys) (ds ++ es)
  | _, _, _, _, .nil, s => s
  | _, _, _, _, .cons r t, s => .cons r (DrAll.append t s)
theorem DrAll.take : ∀ {xs : List V} {ds : List Dt} (n : Nat), DrAll K G xs ds → DrAll K G (xs.take n) (ds.take n)
  | _, _, 0, _ => .nil
  | _, _, _ + 1, .nil => .nil
  | _, _, n + 1, .cons r t => .cons r (DrAll.take n t)
theorem DrAll.drop : ∀ {xs : List V} {ds : List Dt} (n : Nat), DrAll K G xs ds → DrAll K G (xs.drop n) (ds.drop n)
  | _, _, 0, r => r
  | _, _, _ + 1, .nil => .nil
  | _, _, n + 1, .cons _ t => DrAll.drop n t
theorem DrAll.reverse {xs : List V} {ds : List Dt} (h : DrAll K G xs ds) : DrAll K G xs.reverse ds.reverse := by
  induction xs generalizing ds with
  | nil => cases h; exact .nil
  | cons x xs ih =>
    cases h with
    | cons r t =>
      rw [List.reverse_cons, List.reverse_cons]
      exact (ih t).append (.cons r .nil)
theorem DrAll.set {v : V} {d : Dt} (r : Dr K G v d) : ∀ {xs : List V} {ds : List Dt} (i : Nat), DrAll K G xs ds → DrAll K G (xs.set i v) (ds.set i d)
  | _, _, _, .nil => .nil
  | _, _, 0, .cons _ t => .cons r t
  | _, _, i + 1, .cons q t => .cons q (DrAll.set r i t)
theorem DrAll.replicate {xs : List V} {ds : List Dt} (h : DrAll K G xs ds) : ∀ n : Nat, DrAll K G (List.replicate n xs).flatten (List.replicate n ds).flatten
  | 0 => .nil
  | n + 1 => by
    rw [List.replicate_succ, List.replicate_succ, List.flatten_cons, List.flatten_cons]
    exact h.append (DrAll.replicate h n)
theorem DrFs.look {f : Str} {d : Dt} : ∀ {fs : List (Str × V)} {ds : List (Str × Dt)}, DrFs K G fs ds → ds.lookup f = some d → ∃ v, fs.lookup f = some v ∧ Dr K G v d
  | _, _, .nil, e => by simp at e
  | _, _, .cons (f := g) h t, e => by
    by_cases q : (f == g) = true
    · simp only [List.lookup, q] at e ⊢
      exact ⟨_, rfl, Option.some.inj e ▸ h⟩
    · have q' : (f == g) = false := by simpa using q
      simp only [List.lookup, q'] at e ⊢
      exact DrFs.look t e
theorem DrFs.lookN {f : Str} : ∀ {fs : List (Str × V)} {ds : List (Str × Dt)}, DrFs K G fs ds → ds.lookup f = none → fs.lookup f = none
  | _, _, .nil, e => by simp
  | _, _, .cons (f := g) h t, e => by
    by_cases q : (f == g) = true
    · simp only [List.lookup, q] at e
      cases e
    · have q' : (f == g) = false := by simpa using q
      simp only [List.lookup, q'] at e ⊢
      exact DrFs.lookN t e
end

/-! ### plain data -/
mutual
def toPy : Dt → Option PyData
  | .non => some .none
  | .bl b => some (.bool b)
  | .int i => some (.int i)
  | .str x => some (.str x)
  | .tup ds => (toPys ds).map PyData.tuple
  | .lst ds => (toPys ds).map PyData.list
  | .scr _ => none
  | .dct _ => none
  | .raw _ => none
  | .obj _ _ => none
def toPys : List Dt → Option (List PyData)
  | [] => some []
  | d :: r => match toPy d, toPys r with
    | some x, some xs => some (x :: xs)
    | _, _ => none
end
section
variable {K : PySem.W.Frag} {G : Hp}
mutual
theorem Dr.dp : ∀ {v : V} {d : Dt} {p : PyData}, Dr K G v d → toPy d = some p → Dp K G v p
  | _, _, _, .non, e => by simp only [toPy, Option.some.injEq] at e; subst e; exact .non
  | _, _, _, .bl b, e => by simp only [toPy, Option.some.injEq] at e; subst e; exact .bl b
  | _, _, _, .int i, e => by simp only [toPy, Option.some.injEq] at e; subst e; exact .int i
  | _, _, _, .str x, e => by simp only [toPy, Option.some.injEq] at e; subst e; exact .str x
  | _, _, _, .tup (ds := ds) h t, e => by
    simp only [toPy] at e
    cases q : toPys ds with
    | none => rw [q] at e; cases e
    | some ps =>
      rw [q] at e
      simp only [Option.map_some, Option.some.injEq] at e
      subst e
      exact .tup h (DrAll.dp t q)
  | _, _, _, .lst (ds := ds) h t, e => by
    simp only [toPy] at e
    cases q : toPys ds with
    | none => rw [q] at e; cases e
    | some ps =>
      rw [q] at e
      simp only [Option.map_some, Option.some.injEq] at e
      subst e
      exact .lst (SqL.of h) (DrAll.dp t q)
  | _, _, _, .scr _, e => by simp only [toPy] at e; cases e
  | _, _, _, .dct _, e => by simp only [toPy] at e; cases e
  | _, _, _, .raw v, e => by simp only [toPy] at e; cases e
  | _, _, _, .obj _ _ _, e => by simp only [toPy] at e; cases e
theorem DrAll.dp : ∀ {vs : List V} {ds : List Dt} {ps : List PyData}, DrAll K G vs ds → toPys ds = some ps → DpAll K G vs ps
  | _, _, _, .nil, e => by simp only [toPys, Option.some.injEq] at e; subst e; exact .nil
  | _, _, _, .cons (d := d) (ds := ds) h t, e => by
    simp only [toPys] at e
    cases q : toPy d with
    | none => rw [q] at e; cases e
    | some p =>
      cases q2 : toPys ds with
      | none => rw [q, q2] at e; cases e
      | some ps =>
        rw [q, q2] at e
        simp only [Option.some.injEq] at e
        subst e
        exact .cons (Dr.dp h q) (DrAll.dp t q2)
end
end

/-! ### the world of a def's run: the one object M that may change (its content keeps J); G, the part of the heap that never changes -/
structure Wo where
  K : PySem.W.Frag
  M : Option Addr
  J : HO → Prop
structure Good (W : Wo) (G H : Hp) : Prop where
  sub : Same G H
  st : ∀ a, W.M = some a → G a = none ∧ ∃ o, H a = some o ∧ W.J o
structure Fr (W : Wo) (G H G' H' : Hp) : Prop where
  g : Same G G'
  o : ∀ b u, H b = some u → G b = none → G' b = none ∧ (W.M ≠ some b → H' b = some u)
section
variable {W : Wo} {G H G1 H1 G2 H2 : Hp} {p : Addr} {o : HO}
theorem Fr.refl (W : Wo) (G H : Hp) : Fr W G H G H := ⟨Same.refl G, fun _ _ h g => ⟨g, fun _ => h⟩⟩
theorem Fr.trans (a : Fr W G H G1 H1) (b : Fr W G1 H1 G2 H2) (gd : Good W G2 H2) : Fr W G H G2 H2 :=
  ⟨a.g.trans b.g, fun c u h g => by
    obtain ⟨h1, h2⟩ := a.o c u h g
    by_cases hm : W.M = some c
    · exact ⟨(gd.st c hm).1, fun q => absurd hm q⟩
    · obtain ⟨h3, h4⟩ := b.o c u (h2 hm) h1
      exact ⟨h3, h4⟩⟩
theorem same_new (h : G p = none) : Same G (upd G p o) := fun b u e => by
  rw [upd_ne (ne_of_none e h)]
  exact e
theorem Good.nm (gd : Good W G H) (h : H p = none) : W.M ≠ some p := fun e => by
  obtain ⟨_, u, h1, _⟩ := gd.st p e
  rw [h] at h1
  cases h1
theorem Good.gn (gd : Good W G H) (h : H p = none) : G p = none := gd.sub.free h
theorem same_upd2 (e : Same G H) (h : G p = none) : Same (upd G p o) (upd H p o) := fun b u q => by
  by_cases hb : b = p
  · subst hb
    rw [upd_same] at q ⊢
    exact q
  · rw [upd_ne hb] at q ⊢
    exact e b u q
/-- a new object that never changes -/
theorem Fr.new (gd : Good W G H) (h : H p = none) : Fr W G H (upd G p o) (upd H p o) :=
  ⟨same_new (gd.gn h), fun b u e g => by
    have hb : b ≠ p := ne_of_none e h
    rw [upd_ne hb, upd_ne hb]
    exact ⟨g, fun _ => e⟩⟩
theorem Good.new (gd : Good W G H) (h : H p = none) : Good W (upd G p o) (upd H p o) :=
  ⟨same_upd2 gd.sub (gd.gn h), fun a e => by
    obtain ⟨h1, u, h2, h3⟩ := gd.st a e
    have hb : a ≠ p := ne_of_none h2 h
    rw [upd_ne hb, upd_ne hb]
    exact ⟨h1, u, h2, h3⟩⟩
/-- a new object that may change -/
theorem Fr.newM (gd : Good W G H) (h : H p = none) : Fr W G H G (upd H p o) :=
  ⟨Same.refl G, fun b u e g => by
    rw [upd_ne (ne_of_none e h)]
    exact ⟨g, fun _ => e⟩⟩
theorem Good.setM (gd : Good W G H) (h : G p = none) (hm : W.M ≠ some p) : Good W G (upd H p o) :=
  ⟨fun b u e => by
    rw [upd_ne (ne_of_none e h)]
    exact gd.sub b u e, fun a e => by
    obtain ⟨h1, u, h2, h3⟩ := gd.st a e
    have hb : a ≠ p := fun q => hm (q ▸ e)
    rw [upd_ne hb]
    exact ⟨h1, u, h2, h3⟩⟩
end

/-! ### what the names hold -/
/-- self in its __init__: its address, its dict's, its class -/
structure Sf where
  a : Addr
  dx : Addr
  C : Addr
inductive Sl where
  | un
  | dat (d : Dt)
  | mu (ds : List Dt)
  | slf (C : Sf) (fs : List (Str × Dt))
def Sl.own : Sl → Bool
  | .mu _ => true
  | .slf _ _ => true
  | _ => false
structure EnvOk (W : Wo) (H0 G H : Hp) (σ : L2.St) (δ : List Sl) : Prop where
  len : σ.length = δ.length
  dat : ∀ (i : Nat) (d : Dt), δ[i]? = some (.dat d) → ∃ v, σ[i]? = some (some v) ∧ Dr W.K G v d
  mu : ∀ (i : Nat) (ds : List Dt), δ[i]? = some (.mu ds) → ∃ (a : Addr) (xs : List V), σ[i]? = some (some (.ref a)) ∧ H a = some (.lst xs) ∧ G a = none ∧ H0 a = none ∧ W.M ≠ some a ∧ DrAll W.K G xs ds
  slf : ∀ (i : Nat) (C : Sf) (fds : List (Str × Dt)), δ[i]? = some (.slf C fds) → ∃ (a dx : Addr) (fs : List (Str × V)), σ[i]? = some (some (.ref a)) ∧ H a = some (.ins C.C dx fs) ∧ H dx = some (.own a) ∧ G a = none ∧ G dx = none ∧ H0 a = none ∧ (H0 dx = none ∧ a = C.a ∧ dx = C.dx) ∧ W.M ≠ some a ∧ W.M ≠ some dx ∧ DrFs W.K G fs fds
  sep : ∀ (i j : Nat) (a : Addr) (s t : Sl), i ≠ j → δ[i]? = some s → δ[j]? = some t → s.own = true → t.own = true → σ[i]? = some (some (.ref a)) → σ[j]? ≠ some (some (.ref a))
structure Cn where
  W : Wo
  G0 : Hp
  H0 : Hp
  E : XK
  X : Addr → Option (List (Str × Dt)) → Prop
  hE : ∀ (C : Addr) (d : Option Addr) (fds : Option (List (Str × Dt))) (G H : Hp), Fr W G0 H0 G H → Good W G H →
    (match d, fds with | none, none => True | some a, some l => G a = none ∧ H0 a = none ∧ ∃ fs, H a = some (.xd fs) ∧ DrFs W.K G fs l | _, _ => False) → X C fds → E (.ref C) d H
structure At (Γ : Cn) (δ : List Sl) (G H : Hp) (σ : L2.St) : Prop where
  fr : Fr Γ.W Γ.G0 Γ.H0 G H
  gd : Good Γ.W G H
  env : EnvOk Γ.W Γ.H0 G H σ δ
section
variable {W : Wo} {H0 G H G' H' : Hp} {σ : L2.St} {δ : List Sl} {Γ : Cn}
theorem EnvOk.step (e : EnvOk W H0 G H σ δ) (f : Fr W G H G' H') : EnvOk W H0 G' H' σ δ where
  len := e.len
  dat := fun i d h => by
    obtain ⟨v, h1, h2⟩ := e.dat i d h
    exact ⟨v, h1, h2.mono f.g⟩
  mu := fun i ds h => by
    obtain ⟨a, xs, h1, h2, h3, h4, h5, h6⟩ := e.mu i ds h
    obtain ⟨k1, k2⟩ := f.o a _ h2 h3
    exact ⟨a, xs, h1, k2 h5, k1, h4, h5, h6.mono f.g⟩
  slf := fun i C fds h => by
    obtain ⟨a, dx, fs, h1, h2, h3, h4, h5, h6, h7, h8, h9, h10⟩ := e.slf i C fds h
    obtain ⟨k1, k2⟩ := f.o a _ h2 h4
    obtain ⟨k3, k4⟩ := f.o dx _ h3 h5
    exact ⟨a, dx, fs, h1, k2 h8, k4 h9, k1, k3, h6, h7, h8, h9, h10.mono f.g⟩
  sep := e.sep
theorem At.step (a : At Γ δ G H σ) (f : Fr Γ.W G H G' H') (g : Good Γ.W G' H') : At Γ δ G' H' σ :=
  ⟨a.fr.trans f g, g, a.env.step f⟩
theorem At.h0 (a : At Γ δ G H σ) {p : Addr} (h : H p = none) : Γ.H0 p = none := by
  cases q : Γ.H0 p with
  | none => rfl
  | some u =>
    exfalso
    cases q2 : Γ.G0 p with
    | none =>
      have := (a.fr.o p u q q2).2 (a.gd.nm h)
      rw [h] at this
      cases this
    | some u2 =>
      have := a.gd.sub p u2 (a.fr.g p u2 q2)
      rw [h] at this
      cases this
theorem set_get {α : Type} {l : List α} {i j : Nat} {x : α} : (l.set i x)[j]? = if i = j then (if i < l.length then some x else none) else l[j]? := by
  rw [List.getElem?_set]
theorem EnvOk.set (e : EnvOk W H0 G H σ δ) {i : Nat} {v : V} {d : Dt} (h : Dr W.K G v d) : EnvOk W H0 G H (σ.set i (some v)) (δ.set i (.dat d)) where
  len := by rw [List.length_set, List.length_set]; exact e.len
  dat := fun j d' hj => by
    rw [set_get] at hj ⊢
    by_cases q : i = j
    · rw [if_pos q] at hj ⊢
      by_cases q2 : i < δ.length
      · rw [if_pos q2] at hj
        rw [if_pos (by rw [e.len]; exact q2)]
        cases hj
        exact ⟨v, rfl, h⟩
      · rw [if_neg q2] at hj
        cases hj
    · rw [if_neg q] at hj ⊢
      exact e.dat j d' hj
  mu := fun j ds hj => by
    rw [set_get] at hj ⊢
    by_cases q : i = j
    · rw [if_pos q] at hj
      split at hj <;> cases hj
    · rw [if_neg q] at hj ⊢
      exact e.mu j ds hj
  slf := fun j C fds hj => by
    rw [set_get] at hj ⊢
    by_cases q : i = j
    · rw [if_pos q] at hj
      split at hj <;> cases hj
    · rw [if_neg q] at hj ⊢
      exact e.slf j C fds hj
  sep := fun j k a s t hjk hj hk so to h1 => by
    rw [set_get] at hj hk h1 ⊢
    by_cases q : i = j
    · rw [if_pos q] at hj
      split at hj
      · cases hj; cases so
      · cases hj
    · by_cases q2 : i = k
      · rw [if_pos q2] at hk
        split at hk
        · cases hk; cases to
        · cases hk
      · rw [if_neg q] at hj h1
        rw [if_neg q2] at hk ⊢
        exact e.sep j k a s t hjk hj hk so to h1
end

/-! ### the judgements over data -/
/-- what may be read: a datum that never changes, or an own list as it stands -/
def Dv (W : Wo) (G H : Hp) (v : V) (d : Dt) : Prop := Dr W.K G v d ∨ ∃ a xs ds, v = .ref a ∧ d = .lst ds ∧ H a = some (.lst xs) ∧ G a = none ∧ W.M ≠ some a ∧ DrAll W.K G xs ds
inductive DvAll (W : Wo) (G H : Hp) : List V → List Dt → Prop
  | nil : DvAll W G H [] []
  | cons {v : V} {vs : List V} {d : Dt} {ds : List Dt} : Dv W G H v d → DvAll W G H vs ds → DvAll W G H (v :: vs) (d :: ds)
section
variable {W : Wo} {G H G' H' : Hp} {v : V} {d : Dt}
theorem Dv.step (h : Dv W G H v d) (f : Fr W G H G' H') : Dv W G' H' v d := by
  rcases h with h | ⟨a, xs, ds, h1, h2, h3, h4, h5, h6⟩
  · exact .inl (h.mono f.g)
  · obtain ⟨k1, k2⟩ := f.o a _ h3 h4
    exact .inr ⟨a, xs, ds, h1, h2, k2 h5, k1, h5, h6.mono f.g⟩
theorem Dv.dr (h : Dv W G H v d) (g : Good W G H) : Dr W.K H v d := by
  rcases h with h | ⟨a, xs, ds, h1, h2, h3, h4, h5, h6⟩
  · exact h.mono g.sub
  · subst h1 h2
    exact .lst h3 (h6.mono g.sub)
theorem DvAll.step : ∀ {vs : List V} {ds : List Dt}, DvAll W G H vs ds → Fr W G H G' H' → DvAll W G' H' vs ds
  | _, _, .nil, _ => .nil
  | _, _, .cons h t, f => .cons (h.step f) (DvAll.step t f)
theorem DvAll.of : ∀ {vs : List V} {ds : List Dt}, DrAll W.K G vs ds → DvAll W G H vs ds
  | _, _, .nil => .nil
  | _, _, .cons h t => .cons (.inl h) (DvAll.of t)
theorem Dv.int {i : Int} (h : Dv W G H v (.int i)) : v = .int i := by
  rcases h with h | ⟨a, xs, ds, h1, h2, _⟩
  · cases h; rfl
  · cases h2
theorem Dv.str {x : Str} (h : Dv W G H v (.str x)) : v = .str x := by
  rcases h with h | ⟨a, xs, ds, h1, h2, _⟩
  · cases h; rfl
  · cases h2
theorem Dv.bl {b : Bool} (h : Dv W G H v (.bl b)) : v = .bl b := by
  rcases h with h | ⟨a, xs, ds, h1, h2, _⟩
  · cases h; rfl
  · cases h2
theorem Dv.non (h : Dv W G H v .non) : v = .non := by
  rcases h with h | ⟨a, xs, ds, h1, h2, _⟩
  · cases h; rfl
  · cases h2
theorem Dv.raw {u : V} (h : Dv W G H v (.raw u)) : v = u := by
  rcases h with h | ⟨a, xs, ds, h1, h2, _⟩
  · cases h; rfl
  · cases h2
theorem Dv.tup {ds : List Dt} (h : Dv W G H v (.tup ds)) : ∃ a xs, v = .ref a ∧ SqT W.K G a xs ∧ DrAll W.K G xs ds := by
  rcases h with h | ⟨a, xs, ds, h1, h2, _⟩
  · cases h with | tup h1 h2 => exact ⟨_, _, rfl, h1, h2⟩
  · cases h2
theorem Dv.lst {ds : List Dt} (h : Dv W G H v (.lst ds)) (g : Good W G H) : ∃ a xs, v = .ref a ∧ H a = some (.lst xs) ∧ DrAll W.K G xs ds := by
  rcases h with h | ⟨a, xs, ds, h1, h2, h3, h4, h5, h6⟩
  · cases h with | lst h1 h2 => exact ⟨_, _, rfl, g.sub _ _ h1, h2⟩
  · cases h2
    exact ⟨a, xs, h1, h3, h6⟩
end

structure De where
  nx : List Sl → Prop
  rt : Dt → Prop
  bk : List Sl → Prop := fun _ => False
  ct : List Sl → Prop := fun _ => False
def ED (Γ : Cn) (te : TE) (δ : List Sl) (P : Dt → Prop) : Prop :=
  ∀ G H σ (Q : VK), At Γ δ G H σ → (∀ v d G' H', Fr Γ.W G H G' H' → Good Γ.W G' H' → Dr Γ.W.K G' v d → P d → Q v H') → te σ H Q
def RD (Γ : Cn) (te : TE) (δ : List Sl) (P : Dt → Prop) : Prop :=
  ∀ G H σ (Q : VK), At Γ δ G H σ → (∀ v d G' H', Fr Γ.W G H G' H' → Good Γ.W G' H' → Dv Γ.W G' H' v d → P d → Q v H') → te σ H Q
def NL (Γ : Cn) (te : TE) (δ : List Sl) (P : List Dt → Prop) : Prop :=
  ∀ G H σ (Q : VK), At Γ δ G H σ → (∀ a xs ds G' H', Fr Γ.W G H G' H' → Good Γ.W G' H' → H a = none → H' a = some (.lst xs) → G' a = none → DrAll Γ.W.K G' xs ds → P ds → Q (.ref a) H') → te σ H Q
def TD (Γ : Cn) (tt : TT) (δ : List Sl) (P : Bool → Prop) : Prop :=
  ∀ G H σ (Q : Bool → Hp → Prop), At Γ δ G H σ → (∀ b G' H', Fr Γ.W G H G' H' → Good Γ.W G' H' → P b → Q b H') → tt σ H Q
def AD (Γ : Cn) (ta : TA) (δ : List Sl) (P : List Dt → Prop) : Prop :=
  ∀ G H σ (Q : List V → Hp → Prop), At Γ δ G H σ → (∀ vs ds G' H', Fr Γ.W G H G' H' → Good Γ.W G' H' → DrAll Γ.W.K G' vs ds → P ds → Q vs H') → ta σ H Q
def RA (Γ : Cn) (ta : TA) (δ : List Sl) (P : List Dt → Prop) : Prop :=
  ∀ G H σ (Q : List V → Hp → Prop), At Γ δ G H σ → (∀ vs ds G' H', Fr Γ.W G H G' H' → Good Γ.W G' H' → DvAll Γ.W G' H' vs ds → P ds → Q vs H') → ta σ H Q
def SD (Γ : Cn) (ts : TS) (δ : List Sl) (D : De) : Prop :=
  ∀ G H σ (E : Ends), At Γ δ G H σ → (∀ δ' G' H' σ', Same G G' → At Γ δ' G' H' σ' → D.nx δ' → E.nx σ' H') →
    (∀ v d G' H', Fr Γ.W Γ.G0 Γ.H0 G' H' → Good Γ.W G' H' → Dr Γ.W.K G' v d → D.rt d → E.rt v H') →
    (∀ δ' G' H' σ', Same G G' → At Γ δ' G' H' σ' → D.bk δ' → E.bk σ' H') → (∀ δ' G' H' σ', Same G G' → At Γ δ' G' H' σ' → D.ct δ' → E.ct σ' H') → ts E σ H
/-- an operation on data -/
def OD (W : Wo) (r : R2) (x y : Dt) (P : Dt → Prop) : Prop :=
  ∀ G H v w (Q : VK), Good W G H → Dv W G H v x → Dv W G H w y → (∀ u d G' H', Fr W G H G' H' → Good W G' H' → Dr W.K G' u d → P d → Q u H') → r v w H Q
/-- a call on data -/
def CD (W : Wo) (r : List V → Hp → VK → Prop) (ds : List Dt) (P : Dt → Prop) : Prop :=
  ∀ G H vs (Q : VK), Good W G H → DvAll W G H vs ds → (∀ u d G' H', Fr W G H G' H' → Good W G' H' → Dr W.K G' u d → P d → Q u H') → r vs H Q

section
variable {Γ : Cn} {δ : List Sl} {te ta tb tc : TE} {P : Dt → Prop} {r r' : R2}
theorem ED.rd (h : ED Γ te δ P) : RD Γ te δ P := fun G H σ Q at_ k => h G H σ Q at_ fun v d G' H' f g r p => k v d G' H' f g (.inl r) p
theorem NL.ed (h : NL Γ te δ fun ds => P (.lst ds)) : ED Γ te δ P := fun G H σ Q at_ k => h G H σ Q at_ fun a xs ds G' H' f g ha h1 h2 r p => by
  have gd2 : Good Γ.W (upd G' a (.lst xs)) H' := ⟨fun b u e => by
    by_cases hb : b = a
    · subst hb
      rw [upd_same] at e
      rw [← e]
      exact h1
    · rw [upd_ne hb] at e
      exact g.sub b u e, fun b e => by
    obtain ⟨k1, u, k2, k3⟩ := g.st b e
    have hb : b ≠ a := fun q => at_.gd.nm ha (q ▸ e)
    rw [upd_ne hb]
    exact ⟨k1, u, k2, k3⟩⟩
  refine k (.ref a) (.lst ds) (upd G' a (.lst xs)) H' ⟨f.g.trans (same_new h2), fun b u e gb => ?_⟩ gd2 (.lst upd_same (r.mono (same_new h2))) p
  have hb : b ≠ a := ne_of_none e ha
  rw [upd_ne hb]
  exact f.o b u e gb
theorem ed_var {i : Nat} {d : Dt} (h : δ[i]? = some (.dat d)) (p : P d) : ED Γ (tVar i) δ P := fun G H σ Q at_ k => by
  obtain ⟨v, h1, h2⟩ := at_.env.dat i d h
  exact ⟨v, h1, k v d G H (Fr.refl _ _ _) at_.gd h2 p⟩
theorem rd_mut {i : Nat} {ds : List Dt} (h : δ[i]? = some (.mu ds)) (p : P (.lst ds)) : RD Γ (tVar i) δ P := fun G H σ Q at_ k => by
  obtain ⟨a, xs, h1, h2, h3, h4, h5, h6⟩ := at_.env.mu i ds h
  exact ⟨.ref a, h1, k _ _ G H (Fr.refl _ _ _) at_.gd (.inr ⟨a, xs, ds, rfl, rfl, h2, h3, h5, h6⟩) p⟩
theorem ed_c {v : V} {d : Dt} (h : ∀ G, Dr Γ.W.K G v d) (p : P d) : ED Γ (tC v) δ P := fun G H σ Q at_ k => k v d G H (Fr.refl _ _ _) at_.gd (h G) p
theorem ed_int {i : Int} (p : P (.int i)) : ED Γ (tC (.int i)) δ P := ed_c (fun _ => .int i) p
theorem ed_str {x : Str} (p : P (.str x)) : ED Γ (tC (.str x)) δ P := ed_c (fun _ => .str x) p
theorem ed_bl {b : Bool} (p : P (.bl b)) : ED Γ (tC (.bl b)) δ P := ed_c (fun _ => .bl b) p
theorem ed_non (p : P .non) : ED Γ (tC .non) δ P := ed_c (fun _ => .non) p
theorem ed_raw {v : V} (p : P (.raw v)) : ED Γ (tC v) δ P := ed_c (fun _ => .raw v) p
theorem ed_op (h : RD Γ ta δ fun x => RD Γ tb δ fun y => OD Γ.W r x y P) : ED Γ (tOp r ta tb) δ P := fun G H σ Q at_ k =>
  h G H σ _ at_ fun v x G1 H1 f1 g1 d1 p1 => p1 G1 H1 σ _ (at_.step f1 g1) fun w y G2 H2 f2 g2 d2 p2 =>
    p2 G2 H2 v w Q g2 (d1.step f2) d2 fun u d G3 H3 f3 g3 d3 p3 => k u d G3 H3 ((f1.trans f2 g2).trans f3 g3) g3 d3 p3
theorem ed_un {r : V → Hp → VK → Prop} (h : RD Γ ta δ fun x => CD Γ.W (fun vs H Q => ∃ v, vs = [v] ∧ r v H Q) [x] P) : ED Γ (tUn r ta) δ P := fun G H σ Q at_ k =>
  h G H σ _ at_ fun v x G1 H1 f1 g1 d1 p1 => by
    obtain ⟨v', e, q⟩ := p1 G1 H1 [v] Q g1 (.cons d1 .nil) fun u d G3 H3 f3 g3 d3 p3 => k u d G3 H3 (f1.trans f3 g3) g3 d3 p3
    cases e
    exact q
theorem ra_nil {P : List Dt → Prop} (p : P []) : RA Γ tNil δ P := fun G H σ Q at_ k => k [] [] G H (Fr.refl _ _ _) at_.gd .nil p
theorem ra_cons {tr : TA} {P : List Dt → Prop} (h : RD Γ ta δ fun x => RA Γ tr δ fun xs => P (x :: xs)) : RA Γ (tCons ta tr) δ P := fun G H σ Q at_ k =>
  h G H σ _ at_ fun v x G1 H1 f1 g1 d1 p1 => p1 G1 H1 σ _ (at_.step f1 g1) fun vs xs G2 H2 f2 g2 d2 p2 => k (v :: vs) (x :: xs) G2 H2 (f1.trans f2 g2) g2 (.cons (d1.step f2) d2) p2
theorem ad_nil {P : List Dt → Prop} (p : P []) : AD Γ tNil δ P := fun G H σ Q at_ k => k [] [] G H (Fr.refl _ _ _) at_.gd .nil p
theorem ad_cons {tr : TA} {P : List Dt → Prop} (h : ED Γ ta δ fun x => AD Γ tr δ fun xs => P (x :: xs)) : AD Γ (tCons ta tr) δ P := fun G H σ Q at_ k =>
  h G H σ _ at_ fun v x G1 H1 f1 g1 d1 p1 => p1 G1 H1 σ _ (at_.step f1 g1) fun vs xs G2 H2 f2 g2 d2 p2 => k (v :: vs) (x :: xs) G2 H2 (f1.trans f2 g2) g2 (.cons (d1.mono f2.g) d2) p2
theorem ed_cb {rc : List V → Hp → VK → Prop} {t : TA} (h : RA Γ t δ fun ds => CD Γ.W rc ds P) : ED Γ (tCB rc t) δ P := fun G H σ Q at_ k =>
  h G H σ _ at_ fun vs ds G1 H1 f1 g1 d1 p1 => p1 G1 H1 vs Q g1 d1 fun u d G3 H3 f3 g3 d3 p3 => k u d G3 H3 (f1.trans f3 g3) g3 d3 p3
theorem ed_tup {t : TA} (h : AD Γ t δ fun ds => ds.length ≤ 100000 ∧ P (.tup ds)) : ED Γ (tTup t) δ P := fun G H σ Q at_ k =>
  h G H σ _ at_ fun vs ds G1 H1 f1 g1 d1 ⟨hl, p1⟩ => ⟨by rw [d1.length]; exact Nat.le_trans hl (by decide), fun p hp =>
    k (.ref p) (.tup ds) (upd G1 p (.tup vs)) _ (f1.trans (Fr.new g1 hp) (g1.new hp)) (g1.new hp) (.tup (.inl (.inl upd_same)) (d1.mono (same_new (g1.gn hp)))) p1⟩
theorem nl_lst {t : TA} {P : List Dt → Prop} (h : AD Γ t δ fun ds => ds.length ≤ 100000 ∧ P ds) : NL Γ (tLst t) δ P := fun G H σ Q at_ k =>
  h G H σ _ at_ fun vs ds G1 H1 f1 g1 d1 ⟨hl, p1⟩ => ⟨by rw [d1.length]; exact Nat.le_trans hl (by decide), fun p hp => by
    have hH : H p = none := by
      cases q : H p with
      | none => rfl
      | some u =>
        exfalso
        cases q2 : G p with
        | none =>
          by_cases hm : Γ.W.M = some p
          · exact g1.nm hp hm
          · have := (f1.o p u q q2).2 hm
            rw [hp] at this
            cases this
        | some u2 =>
          have := g1.sub p u2 (f1.g p u2 q2)
          rw [hp] at this
          cases this
    exact k p vs ds G1 _ (f1.trans (Fr.newM g1 hp) (g1.setM (g1.gn hp) (g1.nm hp))) (g1.setM (g1.gn hp) (g1.nm hp)) hH upd_same (g1.gn hp) d1 p1⟩
theorem fr_back {W : Wo} {G H G1 H1 : Hp} (f : Fr W G H G1 H1) (g : Good W G1 H1) {p : Addr} (hp : H1 p = none) : H p = none := by
  cases q : H p with
  | none => rfl
  | some u =>
    exfalso
    cases q2 : G p with
    | none =>
      by_cases hm : W.M = some p
      · exact g.nm hp hm
      · have := (f.o p u q q2).2 hm
        rw [hp] at this
        cases this
    | some u2 =>
      have := g.sub p u2 (f.g p u2 q2)
      rw [hp] at this
      cases this
/-! tests -/
theorem td_B {P : Bool → Prop} (h : ED Γ te δ fun d => ∃ b, d = .bl b ∧ P b) : TD Γ (tB te) δ P := fun G H σ Q at_ k =>
  h G H σ _ at_ fun v d G1 H1 f1 g1 d1 ⟨b, e, p⟩ => by subst e; cases d1; exact ⟨b, rfl, k b G1 H1 f1 g1 p⟩
theorem td_test {P : Bool → Prop} (h : ED Γ te δ fun d => ∃ b, d = .bl b ∧ P b) : TD Γ (tTest te) δ P := fun G H σ Q at_ k =>
  h G H σ _ at_ fun v d G1 H1 f1 g1 d1 ⟨b, e, p⟩ => by subst e; cases d1; exact ⟨b, rfl, k b G1 H1 f1 g1 p⟩
theorem td_and {t u : TT} {P : Bool → Prop} (h : TD Γ t δ fun b => (b = true → TD Γ u δ P) ∧ (b = false → P false)) : TD Γ (tAnd t u) δ P := fun G H σ Q at_ k =>
  h G H σ _ at_ fun b G1 H1 f1 g1 ⟨p1, p2⟩ => by
    cases b with
    | true => exact p1 rfl G1 H1 σ Q (at_.step f1 g1) fun b G2 H2 f2 g2 p => k b G2 H2 (f1.trans f2 g2) g2 p
    | false => exact k false G1 H1 f1 g1 (p2 rfl)
theorem td_or {t u : TT} {P : Bool → Prop} (h : TD Γ t δ fun b => (b = true → P true) ∧ (b = false → TD Γ u δ P)) : TD Γ (tOr t u) δ P := fun G H σ Q at_ k =>
  h G H σ _ at_ fun b G1 H1 f1 g1 ⟨p1, p2⟩ => by
    cases b with
    | true => exact k true G1 H1 f1 g1 (p1 rfl)
    | false => exact p2 rfl G1 H1 σ Q (at_.step f1 g1) fun b G2 H2 f2 g2 p => k b G2 H2 (f1.trans f2 g2) g2 p
theorem td_not {t : TT} {P : Bool → Prop} (h : TD Γ t δ fun b => P (!b)) : TD Γ (tNot t) δ P := fun G H σ Q at_ k =>
  h G H σ _ at_ fun b G1 H1 f1 g1 p => k (!b) G1 H1 f1 g1 p
theorem ed_andV (h : ED Γ ta δ fun d => ∃ b, d = .bl b ∧ (b = true → ED Γ tb δ P) ∧ (b = false → P (.bl false))) : ED Γ (tAndV ta tb) δ P := fun G H σ Q at_ k =>
  h G H σ _ at_ fun v d G1 H1 f1 g1 d1 ⟨b, e, p1, p2⟩ => by
    subst e
    cases d1
    refine ⟨b, rfl, ?_⟩
    cases b with
    | true => exact p1 rfl G1 H1 σ Q (at_.step f1 g1) fun v d G2 H2 f2 g2 d2 p => k v d G2 H2 (f1.trans f2 g2) g2 d2 p
    | false => exact k _ _ G1 H1 f1 g1 (.bl false) (p2 rfl)
theorem ed_orV (h : ED Γ ta δ fun d => ∃ b, d = .bl b ∧ (b = true → P (.bl true)) ∧ (b = false → ED Γ tb δ P)) : ED Γ (tOrV ta tb) δ P := fun G H σ Q at_ k =>
  h G H σ _ at_ fun v d G1 H1 f1 g1 d1 ⟨b, e, p1, p2⟩ => by
    subst e
    cases d1
    refine ⟨b, rfl, ?_⟩
    cases b with
    | true => exact k _ _ G1 H1 f1 g1 (.bl true) (p1 rfl)
    | false => exact p2 rfl G1 H1 σ Q (at_.step f1 g1) fun v d G2 H2 f2 g2 d2 p => k v d G2 H2 (f1.trans f2 g2) g2 d2 p
theorem ed_notV (h : ED Γ ta δ fun d => ∃ b, d = .bl b ∧ P (.bl (!b))) : ED Γ (tNotV ta) δ P := fun G H σ Q at_ k =>
  h G H σ _ at_ fun v d G1 H1 f1 g1 d1 ⟨b, e, p1⟩ => by
    subst e
    cases d1
    exact ⟨b, rfl, k _ _ G1 H1 f1 g1 (.bl _) p1⟩
theorem ed_if {t : TT} (h : TD Γ t δ fun b => (b = true → ED Γ ta δ P) ∧ (b = false → ED Γ tb δ P)) : ED Γ (tIf t ta tb) δ P := fun G H σ Q at_ k =>
  h G H σ _ at_ fun b G1 H1 f1 g1 ⟨p1, p2⟩ => by
    cases b with
    | true => exact p1 rfl G1 H1 σ Q (at_.step f1 g1) fun v d G2 H2 f2 g2 d2 p => k v d G2 H2 (f1.trans f2 g2) g2 d2 p
    | false => exact p2 rfl G1 H1 σ Q (at_.step f1 g1) fun v d G2 H2 f2 g2 d2 p => k v d G2 H2 (f1.trans f2 g2) g2 d2 p
theorem ed_chain (h : RD Γ ta δ fun x => RD Γ tb δ fun y => OD Γ.W r x y fun z => ∃ b, z = .bl b ∧ (b = true → RD Γ tc δ fun w => OD Γ.W r' y w P) ∧ (b = false → P (.bl false))) : ED Γ (tChain r r' ta tb tc) δ P := fun G H σ Q at_ k =>
  h G H σ _ at_ fun v x G1 H1 f1 g1 d1 p1 => p1 G1 H1 σ _ (at_.step f1 g1) fun w y G2 H2 f2 g2 d2 p2 =>
    p2 G2 H2 v w _ g2 (d1.step f2) d2 fun u d G3 H3 f3 g3 d3 ⟨b, e, q1, q2⟩ => by
      subst e
      cases d3
      refine ⟨b, rfl, ?_⟩
      have f13 := (f1.trans f2 g2).trans f3 g3
      cases b with
      | true =>
        refine q1 rfl G3 H3 σ _ (at_.step f13 g3) fun w' z G4 H4 f4 g4 d4 p4 => ?_
        exact p4 G4 H4 w w' Q g4 ((d2.step f3).step f4) d4 fun u d G5 H5 f5 g5 d5 p5 => k u d G5 H5 ((f13.trans f4 g4).trans f5 g5) g5 d5 p5
      | false => exact k _ _ G3 H3 f13 g3 (.bl false) (q2 rfl)
/-! statements -/
variable {D : De} {ts tu : TS}
theorem sd_seq (h : SD Γ ts δ { D with nx := fun δ' => SD Γ tu δ' D }) : SD Γ (tSeq ts tu) δ D := fun G H σ E at_ hn hr hb hc =>
  h G H σ { E with nx := tu E } at_ (fun δ' G' H' σ' e a q => q G' H' σ' E a (fun δ2 G2 H2 σ2 e2 a2 q2 => hn δ2 G2 H2 σ2 (e.trans e2) a2 q2) hr
    (fun δ2 G2 H2 σ2 e2 a2 q2 => hb δ2 G2 H2 σ2 (e.trans e2) a2 q2) (fun δ2 G2 H2 σ2 e2 a2 q2 => hc δ2 G2 H2 σ2 (e.trans e2) a2 q2)) hr hb hc
theorem sd_next (h : D.nx δ) : SD Γ tNext δ D := fun G H σ E at_ hn hr hb hc => hn δ G H σ (Same.refl G) at_ h
theorem sd_break (h : D.bk δ) : SD Γ tBreak δ D := fun G H σ E at_ hn hr hb hc => hb δ G H σ (Same.refl G) at_ h
theorem sd_cont (h : D.ct δ) : SD Γ tCont δ D := fun G H σ E at_ hn hr hb hc => hc δ G H σ (Same.refl G) at_ h
theorem sd_never {δ : List Sl} (h : False) : SD Γ tNever δ D := h.elim
theorem sd_asg {i : Nat} (h : ED Γ te δ fun d => D.nx (δ.set i (.dat d))) : SD Γ (tAsg te (gName i)) δ D := fun G H σ E at_ hn hr hb hc =>
  h G H σ _ at_ fun v d G1 H1 f1 g1 d1 p1 => hn _ G1 H1 _ f1.g ⟨at_.fr.trans f1 g1, g1, (at_.env.step f1).set d1⟩ p1
theorem sd_drop (h : RD Γ te δ fun _ => D.nx δ) : SD Γ (tDrop te) δ D := fun G H σ E at_ hn hr hb hc =>
  h G H σ _ at_ fun v d G1 H1 f1 g1 d1 p1 => hn _ G1 H1 _ f1.g (at_.step f1 g1) p1
theorem sd_ret (h : ED Γ te δ D.rt) : SD Γ (tRet te) δ D := fun G H σ E at_ hn hr hb hc =>
  h G H σ _ at_ fun v d G1 H1 f1 g1 d1 p1 => hr v d G1 H1 (at_.fr.trans f1 g1) g1 d1 p1
theorem sd_retN (h : D.rt .non) : SD Γ tRetN δ D := fun G H σ E at_ hn hr hb hc => hr .non .non G H at_.fr at_.gd .non h
theorem sd_if {t : TT} (h : TD Γ t δ fun b => (b = true → SD Γ ts δ D) ∧ (b = false → SD Γ tu δ D)) : SD Γ (tIfS t ts tu) δ D := fun G H σ E at_ hn hr hb hc =>
  h G H σ _ at_ fun b G1 H1 f1 g1 ⟨p1, p2⟩ => by
    have a1 := at_.step f1 g1
    cases b with
    | true => exact p1 rfl G1 H1 σ E a1 (fun δ2 G2 H2 σ2 e2 a2 q2 => hn δ2 G2 H2 σ2 (f1.g.trans e2) a2 q2) hr (fun δ2 G2 H2 σ2 e2 a2 q2 => hb δ2 G2 H2 σ2 (f1.g.trans e2) a2 q2) (fun δ2 G2 H2 σ2 e2 a2 q2 => hc δ2 G2 H2 σ2 (f1.g.trans e2) a2 q2)
    | false => exact p2 rfl G1 H1 σ E a1 (fun δ2 G2 H2 σ2 e2 a2 q2 => hn δ2 G2 H2 σ2 (f1.g.trans e2) a2 q2) hr (fun δ2 G2 H2 σ2 e2 a2 q2 => hb δ2 G2 H2 σ2 (f1.g.trans e2) a2 q2) (fun δ2 G2 H2 σ2 e2 a2 q2 => hc δ2 G2 H2 σ2 (f1.g.trans e2) a2 q2)
end
end Pd

set_option Elab.async false
set_option linter.all false
set_option maxRecDepth 100000
set_option maxHeartbeats 2000000
namespace Pd
open PySem PySem.Spec PyProof.Rows L2

/-! ### wiped slots -/
theorem wipe_get (σ : L2.St) : ∀ (vs : List Nat) (i : Nat), (wipe σ vs)[i]? = if i ∈ vs then (σ[i]?).map (fun _ => none) else σ[i]?
  | [], i => by simp [wipe]
  | v :: vs, i => by
    unfold wipe
    rw [set_get, wipe_length, wipe_get σ vs i]
    by_cases h : v = i
    · subst h
      rw [if_pos rfl, if_pos List.mem_cons_self]
      by_cases h2 : v < σ.length
      · rw [if_pos h2, List.getElem?_eq_getElem h2]
        rfl
      · rw [if_neg h2, List.getElem?_eq_none (by omega)]
        rfl
    · rw [if_neg h]
      have : (i ∈ v :: vs) ↔ i ∈ vs := by
        rw [List.mem_cons]
        exact ⟨fun q => q.resolve_left (fun z => h z.symm), .inr⟩
      by_cases h3 : i ∈ vs
      · rw [if_pos h3, if_pos (this.mpr h3)]
      · rw [if_neg h3, if_neg (fun z => h3 (this.mp z))]
theorem wipe_wipe (σ : L2.St) (vs : List Nat) : wipe (wipe σ vs) vs = wipe σ vs := by
  apply List.ext_getElem?
  intro i
  rw [wipe_get, wipe_get]
  by_cases h : i ∈ vs
  · rw [if_pos h, if_pos h]
    cases σ[i]? <;> rfl
  · rw [if_neg h, if_neg h]
theorem wipe_set (σ : L2.St) {vs : List Nat} {j : Nat} (x : Option V) (hj : j ∈ vs) : wipe (σ.set j x) vs = wipe σ vs := by
  apply List.ext_getElem?
  intro i
  rw [wipe_get, wipe_get, set_get]
  by_cases h : i ∈ vs
  · rw [if_pos h, if_pos h]
    by_cases h2 : j = i
    · subst h2
      rw [if_pos rfl]
      by_cases h3 : j < σ.length
      · rw [if_pos h3, List.getElem?_eq_getElem h3]
        rfl
      · rw [if_neg h3, List.getElem?_eq_none (by omega)]
    · rw [if_neg h2]
  · rw [if_neg h, if_neg h]
    by_cases h2 : j = i
    · subst h2
      exact absurd hj h
    · rw [if_neg h2]
def wipeD (δ : List Sl) : List Nat → List Sl
  | [] => δ
  | v :: vs => (wipeD δ vs).set v .un
theorem wipeD_get (δ : List Sl) : ∀ (vs : List Nat) (i : Nat), (wipeD δ vs)[i]? = if i ∈ vs then (δ[i]?).map (fun _ => .un) else δ[i]?
  | [], i => by simp [wipeD]
  | v :: vs, i => by
    have hl : ∀ ws, (wipeD δ ws).length = δ.length := by
      intro ws
      induction ws with
      | nil => rfl
      | cons w ws ih => unfold wipeD; rw [List.length_set, ih]
    unfold wipeD
    rw [set_get, hl, wipeD_get δ vs i]
    by_cases h : v = i
    · subst h
      rw [if_pos rfl, if_pos List.mem_cons_self]
      by_cases h2 : v < δ.length
      · rw [if_pos h2, List.getElem?_eq_getElem h2]
        rfl
      · rw [if_neg h2, List.getElem?_eq_none (by omega)]
        rfl
    · rw [if_neg h]
      have : (i ∈ v :: vs) ↔ i ∈ vs := by
        rw [List.mem_cons]
        exact ⟨fun q => q.resolve_left (fun z => h z.symm), .inr⟩
      by_cases h3 : i ∈ vs
      · rw [if_pos h3, if_pos (this.mpr h3)]
      · rw [if_neg h3, if_neg (fun z => h3 (this.mp z))]
theorem wipeD_len (δ : List Sl) (ws : List Nat) : (wipeD δ ws).length = δ.length := by
  induction ws with
  | nil => rfl
  | cons w ws ih => unfold wipeD; rw [List.length_set, ih]
theorem wiped_at {δ : List Sl} {vs : List Nat} {i : Nat} {s : Sl} (h : (wipeD δ vs)[i]? = some s) (hs : s ≠ .un) : i ∉ vs ∧ δ[i]? = some s := by
  rw [wipeD_get] at h
  by_cases q : i ∈ vs
  · rw [if_pos q] at h
    cases z : δ[i]? with
    | none => rw [z] at h; cases h
    | some t =>
      rw [z] at h
      simp only [Option.map_some, Option.some.injEq] at h
      exact absurd h.symm hs
  · rw [if_neg q] at h
    exact ⟨q, h⟩
theorem EnvOk.wipe {W : Wo} {H0 G H : Hp} {σ : L2.St} {δ : List Sl} (e : EnvOk W H0 G H σ δ) (vs : List Nat) : EnvOk W H0 G H (L2.wipe σ vs) (wipeD δ vs) where
  len := by rw [wipe_length, wipeD_len]; exact e.len
  dat := fun i d h => by
    obtain ⟨hi, h⟩ := wiped_at h (by intro z; cases z)
    rw [wipe_get, if_neg hi]
    exact e.dat i d h
  mu := fun i ds h => by
    obtain ⟨hi, h⟩ := wiped_at h (by intro z; cases z)
    rw [wipe_get, if_neg hi]
    exact e.mu i ds h
  slf := fun i C fds h => by
    obtain ⟨hi, h⟩ := wiped_at h (by intro z; cases z)
    rw [wipe_get, if_neg hi]
    exact e.slf i C fds h
  sep := fun i j a s t hij hs ht so to h => by
    obtain ⟨hi, hs⟩ := wiped_at hs (by intro z; rw [z] at so; cases so)
    obtain ⟨hj, ht⟩ := wiped_at ht (by intro z; rw [z] at to; cases to)
    rw [wipe_get, if_neg hi] at h
    rw [wipe_get, if_neg hj]
    exact e.sep i j a s t hij hs ht so to h
theorem At.wipe {Γ : Cn} {δ : List Sl} {G H : Hp} {σ : L2.St} (a : At Γ δ G H σ) (vs : List Nat) : At Γ (wipeD δ vs) G H (L2.wipe σ vs) := ⟨a.fr, a.gd, a.env.wipe vs⟩

/-! ### what is walked -/
def Wk (W : Wo) (J : It) (ds : List Dt) (G : Hp) : Prop :=
  Walk J ds.length (fun H => Same G H) (fun i H x H' => ∀ G1, Same G G1 → Good W G1 H → ∃ G2 d, ds[i]? = some d ∧ Fr W G1 H G2 H' ∧ Good W G2 H' ∧ Dr W.K G2 x d)
def WD (Γ : Cn) (wi : TI) (δ : List Sl) (P : List Dt → Prop) : Prop :=
  ∀ G H σ (R : It → Hp → Prop), At Γ δ G H σ → (∀ J ds G' H', Fr Γ.W G H G' H' → Good Γ.W G' H' → Wk Γ.W J ds G' → P ds → R J H') → wi σ H R
/-- a target: js the slots that it stores -/
def GD (Γ : Cn) (g : TG) (js : List Nat) (δ : List Sl) (d : Dt) (P : List Sl → Prop) : Prop :=
  ∀ G H σ v (Q : L2.St → Hp → Prop), At Γ δ G H σ → Dr Γ.W.K G v d → (∀ δ' σ', At Γ δ' G H σ' → (∀ vs, (∀ j ∈ js, j ∈ vs) → wipe σ' vs = wipe σ vs) → P δ' → Q σ' H) → g v σ H Q
def GDs (Γ : Cn) (g : TGs) (js : List Nat) (δ : List Sl) (ds : List Dt) (P : List Sl → Prop) : Prop :=
  ∀ G H σ vs (Q : L2.St → Hp → Prop), At Γ δ G H σ → DrAll Γ.W.K G vs ds → (∀ δ' σ', At Γ δ' G H σ' → (∀ vs, (∀ j ∈ js, j ∈ vs) → wipe σ' vs = wipe σ vs) → P δ' → Q σ' H) → g vs σ H Q
section
variable {Γ : Cn} {δ : List Sl} {te ta tb tc : TE} {P : Dt → Prop}
theorem gd_name {i : Nat} {d : Dt} {P : List Sl → Prop} (h : P (δ.set i (.dat d))) : GD Γ (gName i) [i] δ d P := fun G H σ v Q at_ r k =>
  k _ _ ⟨at_.fr, at_.gd, at_.env.set r⟩ (fun vs hv => wipe_set σ _ (hv i List.mem_cons_self)) h
theorem gds_nil {P : List Sl → Prop} (h : P δ) : GDs Γ gNil [] δ [] P := fun G H σ vs Q at_ r k => by
  cases r
  exact ⟨rfl, k δ σ at_ (fun _ _ => rfl) h⟩
theorem gds_cons {g : TG} {u : TGs} {js ks : List Nat} {d : Dt} {ds : List Dt} {P : List Sl → Prop} (h : GD Γ g js δ d fun δ' => GDs Γ u ks δ' ds P) : GDs Γ (gCons g u) (js ++ ks) δ (d :: ds) P := fun G H σ vs Q at_ r k => by
  cases r with
  | cons r1 r2 =>
    refine ⟨_, _, rfl, h G H σ _ _ at_ r1 fun δ' σ' at1 hw q => ?_⟩
    refine q G H σ' _ Q at1 r2 fun δ2 σ2 at2 hw2 p => ?_
    exact k δ2 σ2 at2 (fun vs hv => (hw2 vs fun j hj => hv j (List.mem_append_right _ hj)).trans (hw vs fun j hj => hv j (List.mem_append_left _ hj))) p
theorem gd_tup {n : Nat} {g : TGs} {js : List Nat} {d : Dt} {P : List Sl → Prop} (h : ∃ ds, d = .tup ds ∧ ds.length = n ∧ GDs Γ g js δ ds P) : GD Γ (gTup Γ.W.K n g) js δ d P := fun G H σ v Q at_ r k => by
  obtain ⟨ds, rfl, hl, h⟩ := h
  cases r with
  | tup h1 h2 => exact ⟨_, _, rfl, sqT_mono at_.gd.sub h1, by rw [h2.length]; exact hl, h G H σ _ Q at_ h2 k⟩
theorem wd_list {tl : TE} {P : List Dt → Prop} (h : ED Γ tl δ fun d => ∃ ds, d = .lst ds ∧ P ds) : WD Γ (iList Γ.W.K tl) δ P := fun G H σ R at_ k =>
  h G H σ _ at_ fun v d G1 H1 f1 g1 d1 ⟨ds, e, p⟩ => by
    subst e
    cases d1 with
    | @lst a xs _ h1 h2 =>
      refine ⟨_, rfl, ⟨_, SqL.of (g1.sub _ _ h1)⟩, k _ ds G1 H1 f1 g1 ?_ p⟩
      have w := walk_list (K := Γ.W.K) (a := a) (xs := xs)
      rw [h2.length] at w
      refine w.mono (fun H q => SqL.of (q _ _ h1)) fun i H x H' hi q y => ?_
      obtain ⟨e, y⟩ := y
      subst e
      intro G2 e2 g2
      obtain ⟨d, hd, r⟩ := h2.get y
      exact ⟨G2, d, hd, Fr.refl _ _ _, g2, r.mono e2⟩
theorem wd_tup {tl : TE} {P : List Dt → Prop} (h : ED Γ tl δ fun d => ∃ ds, d = .tup ds ∧ P ds) : WD Γ (iTup Γ.W.K tl) δ P := fun G H σ R at_ k =>
  h G H σ _ at_ fun v d G1 H1 f1 g1 d1 ⟨ds, e, p⟩ => by
    subst e
    cases d1 with
    | @tup a xs _ h1 h2 =>
      refine ⟨_, rfl, ⟨_, sqT_mono g1.sub h1⟩, k _ ds G1 H1 f1 g1 ?_ p⟩
      have w := walk_tup (K := Γ.W.K) (a := a) (xs := xs)
      rw [h2.length] at w
      refine w.mono (fun H q => sqT_mono q h1) fun i H x H' hi q y => ?_
      obtain ⟨e, y⟩ := y
      subst e
      intro G2 e2 g2
      obtain ⟨d, hd, r⟩ := h2.get y
      exact ⟨G2, d, hd, Fr.refl _ _ _, g2, r.mono e2⟩
def upto (lo : Int) (n : Nat) : List Dt := (List.range n).map fun (i : Nat) => Dt.int (lo + (i : Int))
theorem upto_len (lo : Int) (n : Nat) : (upto lo n).length = n := by simp [upto]
theorem upto_get {lo : Int} {n i : Nat} {d : Dt} (h : (upto lo n)[i]? = some d) : i < n ∧ d = .int (lo + (i : Int)) := by
  have hl : i < (upto lo n).length := (List.getElem?_eq_some_iff.mp h).1
  rw [upto_len] at hl
  refine ⟨hl, ?_⟩
  unfold upto at h
  rw [List.getElem?_map, List.getElem?_range hl] at h
  exact (Option.some.inj h).symm
theorem upto_at {lo : Int} {n i : Nat} (h : i < n) : (upto lo n)[i]? = some (.int (lo + (i : Int))) := by
  unfold upto
  rw [List.getElem?_map, List.getElem?_range h]
  rfl
theorem wk_range {W : Wo} {lo : Int} {n : Nat} {G : Hp} : Wk W (Itr lo n) (upto lo n) G := by
  have w := walk_range (lo := lo) (n := n)
  unfold Wk
  rw [upto_len]
  refine w.mono (fun _ _ => trivial) fun i H x H' hi q y => ?_
  obtain ⟨e, y⟩ := y
  subst e
  subst y
  intro G2 e2 g2
  exact ⟨G2, _, upto_at hi, Fr.refl _ _ _, g2, .int _⟩
theorem wd_range1 {t : TA} {P : List Dt → Prop} (h : RA Γ t δ fun ds => ∃ j : Int, ds = [.int j] ∧ -(2 ^ 62) ≤ j ∧ j < 2 ^ 62 ∧ P (upto 0 j.toNat)) : WD Γ (iRng1 t) δ P := fun G H σ R at_ k =>
  h G H σ _ at_ fun vs ds G1 H1 f1 g1 d1 ⟨j, e, h1, h2, p⟩ => by
    subst e
    cases d1 with
    | cons r1 r2 =>
      cases r2
      have := r1.int
      subst this
      exact ⟨j, rfl, h1, h2, k _ _ G1 H1 f1 g1 wk_range p⟩
theorem wd_range2 {t : TA} {P : List Dt → Prop} (h : RA Γ t δ fun ds => ∃ i j : Int, ds = [.int i, .int j] ∧ (-(2 ^ 62) ≤ i ∧ i < 2 ^ 62 ∧ -(2 ^ 62) ≤ j ∧ j < 2 ^ 62) ∧ P (upto i (j - i).toNat)) : WD Γ (iRng2 t) δ P := fun G H σ R at_ k =>
  h G H σ _ at_ fun vs ds G1 H1 f1 g1 d1 ⟨i, j, e, h1, p⟩ => by
    subst e
    cases d1 with
    | cons r1 r2 =>
      cases r2 with
      | cons r2 r3 =>
        cases r3
        have := r1.int
        subst this
        have := r2.int
        subst this
        exact ⟨i, j, rfl, h1, k _ _ G1 H1 f1 g1 wk_range p⟩
def signs (z : Str) : List Dt := z.cps.toList.map fun c => .str ⟨#[c]⟩
theorem wd_str {tl : TE} {P : List Dt → Prop} (h : ED Γ tl δ fun d => ∃ z, d = .str z ∧ P (signs z)) : WD Γ (iStr tl) δ P := fun G H σ R at_ k =>
  h G H σ _ at_ fun v d G1 H1 f1 g1 d1 ⟨z, e, p⟩ => by
    subst e
    cases d1
    refine ⟨z, rfl, k _ _ G1 H1 f1 g1 ?_ p⟩
    have w := walk_str (z := z)
    unfold Wk
    rw [show (signs z).length = z.cps.size by simp [signs]]
    refine w.mono (fun _ _ => trivial) fun i H x H' hi q y => ?_
    obtain ⟨e, c, hc, y⟩ := y
    subst e
    subst y
    intro G2 e2 g2
    refine ⟨G2, .str ⟨#[c]⟩, ?_, Fr.refl _ _ _, g2, .str _⟩
    unfold signs
    rw [List.getElem?_map, Array.getElem?_toList, hc]
    rfl

/-! ### loops -/
theorem sd_for {wi : TI} {g : TG} {tb : TS} {js : List Nat} {D : De} (h : WD Γ wi δ fun ds => ∃ I : Nat → List Sl → Prop, I 0 δ ∧
    (∀ i x δ', ds[i]? = some x → I i δ' → GD Γ g js δ' x fun δ2 => SD Γ tb δ2 { nx := I (i + 1), ct := I (i + 1), bk := D.nx, rt := D.rt }) ∧ (∀ δ', I ds.length δ' → D.nx δ')) : SD Γ (tFor wi g tb) δ D := fun G H σ E at_ hn hr hb hc =>
  h G H σ _ at_ fun J ds G1 H1 f1 g1 w ⟨I, h0, hs, hd⟩ => by
    refine for_it w (fun i σ' H' => ∃ δ' G', Same G1 G' ∧ At Γ δ' G' H' σ' ∧ I i δ') ⟨δ, G1, Same.refl _, at_.step f1 g1, h0⟩ (fun i σ' H' _ ⟨δ', G', e, a, _⟩ => e.trans a.gd.sub) ?_ ?_
    · rintro i x σ' H' H2 hi ⟨δ', G', e, a, hI⟩ y
      obtain ⟨G2, d, hd', f2, g2, r⟩ := y G' e a.gd
      refine hs i d δ' hd' hI G2 H2 σ' x _ (a.step f2 g2) r fun δ2 σ2 a2 _ q => ?_
      refine q G2 H2 σ2 _ a2 ?_ hr ?_ ?_
      · intro δ3 G3 H3 σ3 e3 a3 q3
        exact ⟨δ3, G3, (e.trans f2.g).trans e3, a3, q3⟩
      · intro δ3 G3 H3 σ3 e3 a3 q3
        exact hn δ3 G3 H3 σ3 (((f1.g.trans e).trans f2.g).trans e3) a3 q3
      · intro δ3 G3 H3 σ3 e3 a3 q3
        exact ⟨δ3, G3, (e.trans f2.g).trans e3, a3, q3⟩
    · rintro σ' H' ⟨δ', G', e, a, hI⟩
      exact hn δ' G' H' σ' (f1.g.trans e) a (hd δ' hI)
/-! ### comprehensions -/
theorem nl_lc {wi : TI} {g : TG} {tt : TT} {vs js : List Nat} {P : List Dt → Prop} (hj : ∀ j ∈ js, j ∈ vs) (h : WD Γ wi δ fun ds => ds.length ≤ 100000 ∧ ∃ I : Nat → List Dt → Prop, I 0 [] ∧
    (∀ i x acc, ds[i]? = some x → I i acc → GD Γ g js (wipeD δ vs) x fun δ2 => TD Γ tt δ2 fun b => (b = true → ED Γ te δ2 fun y => I (i + 1) (acc ++ [y])) ∧ (b = false → I (i + 1) acc)) ∧ (∀ acc, I ds.length acc → P acc)) :
    NL Γ (tLc wi g tt te vs) δ P := fun G H σ Q at_ k =>
  h G H σ _ at_ fun J ds G1 H1 f1 g1 w ⟨hlen, I, h0, hs, hd⟩ D hD => by
    have gD : G1 D = none := g1.gn hD
    have mD : Γ.W.M ≠ some D := g1.nm hD
    have hHD : H D = none := fr_back f1 g1 hD
    have at1 := at_.step f1 g1
    refine lc_it w (fun i H' => ∃ G' xs acc, Fr Γ.W G1 H1 G' H' ∧ Good Γ.W G' H' ∧ G' D = none ∧ H' D = some (.lst xs) ∧ DrAll Γ.W.K G' xs acc ∧ xs.length ≤ i ∧ I i acc)
      ⟨G1, [], [], Fr.newM g1 hD, g1.setM gD mD, gD, upd_same, .nil, Nat.le_refl _, h0⟩ (fun i H' _ ⟨G', _, _, f, g, _⟩ => f.g.trans g.sub) ?_ ?_
    · rintro i x H' H2 hi ⟨G', xs, acc, f, gg, gDn, hDl, ra, hxl, hI⟩ y
      obtain ⟨G2, d, hd', f2, g2, r⟩ := y G' f.g gg
      have at2 : At Γ (wipeD δ vs) G2 H2 (wipe σ vs) := ((at1.step f gg).step f2 g2).wipe vs
      have D2 := f2.o D _ hDl gDn
      refine hs i d acc hd' hI G2 H2 (wipe σ vs) x _ at2 r fun δ2 σ2 a2 hw q => ⟨(hw vs hj).trans (wipe_wipe σ vs), ?_⟩
      refine q G2 H2 σ2 _ a2 fun b G3 H3 f3 g3 ⟨q1, q2⟩ => ?_
      have D3 := f3.o D _ (D2.2 mD) D2.1
      cases b with
      | true =>
        refine iteT ?_
        refine q1 rfl G3 H3 σ2 _ (a2.step f3 g3) fun v y G4 H4 f4 g4 d4 p4 => ?_
        have D4 := f4.o D _ (D3.2 mD) D3.1
        have f14 := ((f.trans f2 g2).trans f3 g3).trans f4 g4
        refine ⟨xs, D4.2 mD, Nat.lt_of_le_of_lt (Nat.le_trans hxl (Nat.le_of_lt (Nat.lt_of_lt_of_le hi hlen))) (by decide), G4, xs ++ [v], acc ++ [y], ?_, g4.setM D4.1 mD, D4.1, upd_same, ?_, ?_, p4⟩
        · refine ⟨f14.g, fun b u e gb => ?_⟩
          have hb : b ≠ D := ne_of_none e hD
          rw [upd_ne hb]
          exact f14.o b u e gb
        · exact ((((ra.mono f2.g).mono f3.g).mono f4.g)).append (.cons d4 .nil)
        · rw [List.length_append]
          show xs.length + 1 ≤ i + 1
          omega
      | false =>
        refine iteF ?_
        exact ⟨G3, xs, acc, (f.trans f2 g2).trans f3 g3, g3, D3.1, D3.2 mD, (ra.mono f2.g).mono f3.g, Nat.le_succ_of_le hxl, q2 rfl⟩
    · rintro H' ⟨G', xs, acc, f, gg, gDn, hDl, ra, _, hI⟩
      exact k D xs acc G' H' (f1.trans f gg) gg hHD hDl gDn ra (hd acc hI)
theorem td_yes {P : Bool → Prop} (p : P true) : TD Γ tYes δ P := fun G H σ Q at_ k => k true G H (Fr.refl _ _ _) at_.gd p

/-! ### own lists -/
theorem EnvOk.setMu {W : Wo} {H0 G H : Hp} {σ : L2.St} {δ : List Sl} (e : EnvOk W H0 G H σ δ) {i : Nat} {a : Addr} {xs : List V} {ds : List Dt} (hH : H a = some (.lst xs)) (hG : G a = none) (h0 : H0 a = none) (hm : W.M ≠ some a) (r : DrAll W.K G xs ds)
    (hn : ∀ j s, i ≠ j → δ[j]? = some s → s.own = true → σ[j]? ≠ some (some (.ref a))) : EnvOk W H0 G H (σ.set i (some (.ref a))) (δ.set i (.mu ds)) where
  len := by rw [List.length_set, List.length_set]; exact e.len
  dat := fun j d' hj => by
    rw [set_get] at hj ⊢
    by_cases q : i = j
    · rw [if_pos q] at hj
      split at hj <;> cases hj
    · rw [if_neg q] at hj ⊢
      exact e.dat j d' hj
  mu := fun j ds' hj => by
    rw [set_get] at hj ⊢
    by_cases q : i = j
    · rw [if_pos q] at hj ⊢
      by_cases q2 : i < δ.length
      · rw [if_pos q2] at hj
        rw [if_pos (by rw [e.len]; exact q2)]
        cases hj
        exact ⟨a, xs, rfl, hH, hG, h0, hm, r⟩
      · rw [if_neg q2] at hj
        cases hj
    · rw [if_neg q] at hj ⊢
      exact e.mu j ds' hj
  slf := fun j C fds hj => by
    rw [set_get] at hj ⊢
    by_cases q : i = j
    · rw [if_pos q] at hj
      split at hj <;> cases hj
    · rw [if_neg q] at hj ⊢
      exact e.slf j C fds hj
  sep := fun j k b s t hjk hj hk so to h1 => by
    rw [set_get] at hj hk h1 ⊢
    by_cases q : i = j
    · rw [if_pos q] at hj h1
      have q2 : i ≠ k := fun z => hjk (q.symm.trans z)
      rw [if_neg q2] at hk ⊢
      split at h1
      · cases h1
        exact hn k t q2 hk to
      · cases h1
    · rw [if_neg q] at hj h1
      by_cases q2 : i = k
      · rw [if_pos q2] at hk ⊢
        split
        · intro z
          cases z
          exact hn j s q hj so h1
        · intro z
          cases z
      · rw [if_neg q2] at hk ⊢
        exact e.sep j k b s t hjk hj hk so to h1
theorem sd_asgM {i : Nat} {D : De} (h : NL Γ te δ fun ds => D.nx (δ.set i (.mu ds))) : SD Γ (tAsg te (gName i)) δ D := fun G H σ E at_ hn hr hb hc =>
  h G H σ _ at_ fun a xs ds G1 H1 f1 g1 ha h1 h2 r p => by
    have e1 := at_.env.step f1
    refine hn _ G1 H1 _ f1.g ⟨at_.fr.trans f1 g1, g1, e1.setMu h1 h2 (at_.h0 ha) (at_.gd.nm ha) r ?_⟩ p
    intro j s hj hs so z
    cases s with
    | un => cases so
    | dat d => cases so
    | mu ds' =>
      obtain ⟨b, ys, k1, k2, _⟩ := at_.env.mu j ds' hs
      rw [k1] at z
      cases z
      rw [ha] at k2
      cases k2
    | slf C fds =>
      obtain ⟨b, dx, ys, k1, k2, _⟩ := at_.env.slf j C fds hs
      rw [k1] at z
      cases z
      rw [ha] at k2
      cases k2
/-- an own list is changed no more -/
theorem sd_freeze {i : Nat} {ds : List Dt} {ts : TS} {D : De} (hi : δ[i]? = some (.mu ds)) (h : SD Γ ts (δ.set i (.dat (.lst ds))) D) : SD Γ ts δ D := fun G H σ E at_ hn hr hb hc => by
  obtain ⟨a, xs, h1, h2, h3, h4, h5, h6⟩ := at_.env.mu i ds hi
  have sG : Same G (upd G a (.lst xs)) := same_new h3
  have gd2 : Good Γ.W (upd G a (.lst xs)) H := ⟨fun b u e => by
    by_cases q : b = a
    · subst q
      rw [upd_same] at e
      rw [← e]
      exact h2
    · rw [upd_ne q] at e
      exact at_.gd.sub b u e, fun b e => by
    obtain ⟨k1, k2⟩ := at_.gd.st b e
    have hba : b ≠ a := fun q => h5 (q ▸ e)
    rw [upd_ne hba]
    exact ⟨k1, k2⟩⟩
  have fr2 : Fr Γ.W Γ.G0 Γ.H0 (upd G a (.lst xs)) H := ⟨at_.fr.g.trans sG, fun b u e gb => by
    have q : b ≠ a := ne_of_none e h4
    rw [upd_ne q]
    exact at_.fr.o b u e gb⟩
  have hlen : i < δ.length := (List.getElem?_eq_some_iff.mp hi).1
  have env2 : EnvOk Γ.W Γ.H0 (upd G a (.lst xs)) H σ (δ.set i (.dat (.lst ds))) := {
    len := by rw [List.length_set]; exact at_.env.len
    dat := fun j d hj => by
      rw [set_get] at hj
      by_cases q : i = j
      · rw [if_pos q, if_pos hlen] at hj
        cases hj
        subst q
        exact ⟨.ref a, h1, .lst upd_same (h6.mono sG)⟩
      · rw [if_neg q] at hj
        obtain ⟨v, k1, k2⟩ := at_.env.dat j d hj
        exact ⟨v, k1, k2.mono sG⟩
    mu := fun j ds' hj => by
      rw [set_get] at hj
      by_cases q : i = j
      · rw [if_pos q, if_pos hlen] at hj
        cases hj
      · rw [if_neg q] at hj
        obtain ⟨b, ys, k1, k2, k3, k4, k5, k6⟩ := at_.env.mu j ds' hj
        have q2 : b ≠ a := fun z => at_.env.sep i j a _ _ q hi hj rfl rfl h1 (z ▸ k1)
        exact ⟨b, ys, k1, k2, by rw [upd_ne q2]; exact k3, k4, k5, k6.mono sG⟩
    slf := fun j C fds hj => by
      rw [set_get] at hj
      by_cases q : i = j
      · rw [if_pos q, if_pos hlen] at hj
        cases hj
      · rw [if_neg q] at hj
        obtain ⟨b, dx, ys, k1, k2, k3, k4, k5, k6, k7, k8, k9, k10⟩ := at_.env.slf j C fds hj
        have q2 : b ≠ a := fun z => by subst z; rw [h2] at k2; cases k2
        have q3 : dx ≠ a := fun z => by subst z; rw [h2] at k3; cases k3
        exact ⟨b, dx, ys, k1, k2, k3, by rw [upd_ne q2]; exact k4, by rw [upd_ne q3]; exact k5, k6, k7, k8, k9, k10.mono sG⟩
    sep := fun j k b s t hjk hj hk so to z => by
      rw [set_get] at hj hk
      by_cases q : i = j
      · rw [if_pos q, if_pos hlen] at hj
        cases hj
        cases so
      · rw [if_neg q] at hj
        by_cases q2 : i = k
        · rw [if_pos q2, if_pos hlen] at hk
          cases hk
          cases to
        · rw [if_neg q2] at hk
          exact at_.env.sep j k b s t hjk hj hk so to z }
  exact h (upd G a (.lst xs)) H σ E ⟨fr2, gd2, env2⟩ (fun δ2 G2 H2 σ2 e2 a2 q2 => hn δ2 G2 H2 σ2 (sG.trans e2) a2 q2) hr (fun δ2 G2 H2 σ2 e2 a2 q2 => hb δ2 G2 H2 σ2 (sG.trans e2) a2 q2) (fun δ2 G2 H2 σ2 e2 a2 q2 => hc δ2 G2 H2 σ2 (sG.trans e2) a2 q2)
/-- the own list in slot i is now ds' -/
theorem At.store {G H : Hp} {σ : L2.St} {i : Nat} {ds ds' : List Dt} {a : Addr} {xs xs' : List V} (at_ : At Γ δ G H σ) (hi : δ[i]? = some (.mu ds)) (hv : σ[i]? = some (some (.ref a))) (r : DrAll Γ.W.K G xs' ds') :
    At Γ (δ.set i (.mu ds')) G (upd H a (.lst xs')) σ := by
  obtain ⟨a', xs, h1, h2, h3, h4, h5, h6⟩ := at_.env.mu i ds hi
  rw [hv] at h1
  cases h1
  have hlen : i < δ.length := (List.getElem?_eq_some_iff.mp hi).1
  refine ⟨⟨at_.fr.g, fun b u e gb => ?_⟩, at_.gd.setM h3 h5, ?_⟩
  · have q : b ≠ a := ne_of_none e h4
    rw [upd_ne q]
    exact at_.fr.o b u e gb
  · exact {
      len := by rw [List.length_set]; exact at_.env.len
      dat := fun j d hj => by
        rw [set_get] at hj
        by_cases q : i = j
        · rw [if_pos q, if_pos hlen] at hj
          cases hj
        · rw [if_neg q] at hj
          exact at_.env.dat j d hj
      mu := fun j es hj => by
        rw [set_get] at hj
        by_cases q : i = j
        · rw [if_pos q, if_pos hlen] at hj
          cases hj
          subst q
          exact ⟨a, xs', hv, upd_same, h3, h4, h5, r⟩
        · rw [if_neg q] at hj
          obtain ⟨b, ys, k1, k2, k3, k4, k5, k6⟩ := at_.env.mu j es hj
          have q2 : b ≠ a := fun z => at_.env.sep i j a _ _ q hi hj rfl rfl hv (z ▸ k1)
          exact ⟨b, ys, k1, by rw [upd_ne q2]; exact k2, k3, k4, k5, k6⟩
      slf := fun j C fds hj => by
        rw [set_get] at hj
        by_cases q : i = j
        · rw [if_pos q, if_pos hlen] at hj
          cases hj
        · rw [if_neg q] at hj
          obtain ⟨b, dx, ys, k1, k2, k3, k4, k5, k6, k7, k8, k9, k10⟩ := at_.env.slf j C fds hj
          have q2 : b ≠ a := fun z => by subst z; rw [h2] at k2; cases k2
          have q3 : dx ≠ a := fun z => by subst z; rw [h2] at k3; cases k3
          exact ⟨b, dx, ys, k1, by rw [upd_ne q2]; exact k2, by rw [upd_ne q3]; exact k3, k4, k5, k6, k7, k8, k9, k10⟩
      sep := fun j k b s t hjk hj hk so to z => by
        rw [set_get] at hj hk
        by_cases q : i = j
        · subst q
          have q2 : i ≠ k := hjk
          rw [if_neg q2] at hk
          exact at_.env.sep i k b _ t hjk hi hk rfl to z
        · rw [if_neg q] at hj
          by_cases q2 : i = k
          · subst q2
            exact at_.env.sep j i b s _ hjk hj hi so rfl z
          · rw [if_neg q2] at hk
            exact at_.env.sep j k b s t hjk hj hk so to z }
theorem sd_app {i : Nat} {ds : List Dt} {D : De} (hi : δ[i]? = some (.mu ds)) (hl : ds.length < 100000) (h : ED Γ te δ fun d => D.nx (δ.set i (.mu (ds ++ [d])))) :
    SD Γ (tDrop (tBM Γ.W.K "list" rAppend (tVar i) (tCons te tNil))) δ D := fun G H σ E at_ hn hr hb hc => by
  obtain ⟨a, xs, h1, h2, h3, h4, h5, h6⟩ := at_.env.mu i ds hi
  refine ⟨.ref a, h1, .inl ⟨rfl, xs, .inl (.inl h2)⟩, h G H σ _ at_ fun v d G1 H1 f1 g1 d1 p1 => ?_⟩
  have k := f1.o a _ h2 h3
  refine ⟨a, xs, v, rfl, rfl, k.2 h5, ?_, ?_⟩
  · rw [h6.length]
    exact Nat.lt_trans hl (by decide)
  · exact hn _ G1 _ σ f1.g ((at_.step f1 g1).store hi h1 ((h6.mono f1.g).append (.cons d1 .nil)) (xs := xs)) p1
end

/-! ### promises -/
/-- a def over data: what it asks of the world and the data, what its answer is -/
def spW (K : PySem.W.Frag) (n : Nat) (Pre : Wo → List Dt → Prop) (R : List Dt → Dt → Prop) : Sp := fun vs H Q _ => vs.length = n ∧ ∃ W ds G, W.K = K ∧ Good W G H ∧ DrAll K G vs ds ∧ Pre W ds ∧
  ∀ v d G' H', Fr W G H G' H' → Good W G' H' → Dr K G' v d → R ds d → Q v H'
section
variable {Γ : Cn} {δ : List Sl} {P : Dt → Prop}
theorem ed_call {n : Nat} {Pre : Wo → List Dt → Prop} {R : List Dt → Dt → Prop} {E : XK} {t : TA} (h : AD Γ t δ fun ds => ds.length = n ∧ Pre Γ.W ds ∧ ∀ d, R ds d → P d) : ED Γ (tCall (spW Γ.W.K n Pre R) [] E t) δ P := fun G H σ Q at_ k =>
  h G H σ _ at_ fun vs ds G1 H1 f1 g1 d1 ⟨hl, p1, p2⟩ => by
    show spW Γ.W.K n Pre R (vs ++ []) H1 Q E
    rw [List.append_nil]
    exact ⟨d1.length.trans hl, Γ.W, ds, G1, rfl, g1, d1, p1, fun v d G' H' f g r q => k v d G' H' (f1.trans f g) g r (p2 d q)⟩
end
/-- the context of a def's body that lets no error out -/
def cn0 (W : Wo) (G H : Hp) : Cn := ⟨W, G, H, fun _ _ _ => False, fun _ _ => False, fun _ _ _ _ _ _ _ _ h => h⟩
def slots (n : Nat) (ds : List Dt) : List Sl := ds.map .dat ++ List.replicate (n - ds.length) .un
theorem at_start {W : Wo} {G H : Hp} {N : List Str} {vs : List V} {ds : List Dt} (g : Good W G H) (r : DrAll W.K G vs ds) : At (cn0 W G H) (slots N.length ds) G H (L2.start N vs) := by
  have hl := r.length
  refine ⟨Fr.refl _ _ _, g, ?_⟩
  have key : ∀ (i : Nat) (s : Sl), (slots N.length ds)[i]? = some s → s ≠ .un → ∃ d, ds[i]? = some d ∧ s = .dat d := by
    intro i s h hs
    unfold slots at h
    by_cases hi : i < (ds.map Sl.dat).length
    · rw [List.getElem?_append_left hi, List.getElem?_map] at h
      cases q : ds[i]? with
      | none => rw [q] at h; cases h
      | some d =>
        rw [q] at h
        exact ⟨d, rfl, (Option.some.inj h).symm⟩
    · rw [List.getElem?_append_right (by omega)] at h
      rw [List.getElem?_replicate] at h
      split at h
      · cases h
        exact absurd rfl hs
      · cases h
  refine ⟨?_, ?_, ?_, ?_, ?_⟩
  · unfold L2.start slots
    rw [List.length_append, List.length_append, List.length_map, List.length_map, List.length_replicate, List.length_replicate, hl]
  · intro i d h
    obtain ⟨d', hd, e⟩ := key i _ h (by intro z; cases z)
    cases e
    obtain ⟨v, hv, rr⟩ := r.getD hd
    refine ⟨v, ?_, rr⟩
    unfold L2.start
    rw [List.getElem?_append_left (by rw [List.length_map]; exact (List.getElem?_eq_some_iff.mp hv).1), List.getElem?_map, hv]
    rfl
  · intro i d h
    obtain ⟨d', hd, e⟩ := key i _ h (by intro z; cases z)
    cases e
  · intro i C d h
    obtain ⟨d', hd, e⟩ := key i _ h (by intro z; cases z)
    cases e
  · intro i j a s t _ hs ht so
    obtain ⟨d', hd, e⟩ := key i _ hs (by intro z; rw [z] at so; cases so)
    rw [e] at so
    cases so
/-- from a body over data to the promise's reading -/
theorem body_of {K : PySem.W.Frag} {n : Nat} {Pre : Wo → List Dt → Prop} {R : List Dt → Dt → Prop} {N : List Str} {t : TS} {vs : List V} {H : Hp} {Q : VK} {E : XK}
    (h : ∀ (Γ : Cn) ds, Γ.W.K = K → ds.length = n → Pre Γ.W ds → SD Γ t (slots N.length ds) { nx := fun _ => R ds .non, rt := R ds }) (hs : spW K n Pre R vs H Q E) : t { nx := fun _ H' => Q .non H', rt := Q } (L2.start N vs) H := by
  obtain ⟨hl, W, ds, G, rfl, g, r, p, k⟩ := hs
  refine h (cn0 W G H) ds rfl (r.length.symm.trans hl) p G H (L2.start N vs) _ (at_start g r) ?_ ?_ ?_ ?_
  · intro δ' G' H' σ' e a q
    exact k .non .non G' H' a.fr a.gd .non q
  · intro v d G' H' f g' rr q
    exact k v d G' H' f g' rr q
  · intro δ' G' H' σ' e a q
    exact q.elim
  · intro δ' G' H' σ' e a q
    exact q.elim
/-- a def whose answer is a new list -/
def spN (K : PySem.W.Frag) (n : Nat) (Pre : Wo → List Dt → Prop) (R : List Dt → List Dt → Prop) : Sp := fun vs H Q _ => vs.length = n ∧ ∃ W ds G, W.K = K ∧ Good W G H ∧ DrAll K G vs ds ∧ Pre W ds ∧
  ∀ a xs es G' H', Fr W G H G' H' → Good W G' H' → H a = none → H' a = some (.lst xs) → G' a = none → DrAll K G' xs es → R ds es → Q (.ref a) H'
theorem nl_call {Γ : Cn} {δ : List Sl} {P : List Dt → Prop} {n : Nat} {Pre : Wo → List Dt → Prop} {R : List Dt → List Dt → Prop} {E : XK} {t : TA} (h : AD Γ t δ fun ds => ds.length = n ∧ Pre Γ.W ds ∧ ∀ es, R ds es → P es) : NL Γ (tCall (spN Γ.W.K n Pre R) [] E t) δ P := fun G H σ Q at_ k =>
  h G H σ _ at_ fun vs ds G1 H1 f1 g1 d1 ⟨hl, p1, p2⟩ => by
    show spN Γ.W.K n Pre R (vs ++ []) H1 Q E
    rw [List.append_nil]
    exact ⟨d1.length.trans hl, Γ.W, ds, G1, rfl, g1, d1, p1, fun a xs es G' H' f g ha h1 h2 r q => k a xs es G' H' (f1.trans f g) g (fr_back f1 g1 ha) h1 h2 r (p2 es q)⟩
end Pd

set_option Elab.async false
set_option linter.all false
set_option maxRecDepth 100000
set_option maxHeartbeats 2000000
/-! Calls where no repr is under way (guards told): what repr of a list wants. -/
namespace Pg
open PySem PySem.Spec PyProof.Rows L2

structure FnG (P : Program) (w : World) (K : PySem.W.Frag) (mg : Str → Option Value) (base : Heap) (k : Nat) (f : Addr) (fd : FuncData) (ps : List Str) (sp : Sp) : Prop where
  ln : ∀ vs H Q E, sp vs H Q E → vs.length = ps.length
  go : ∀ (A : Around) (out : List Env) (s : Shared) (H : Hp) (args : Args) (us : List Value) (vs : List V) (Q : VK) (E : XK),
    Room k A → A.guards = some [] → Env0 P w K mg base A out s H → BindsTo s fd args (ps.zip us) → Vals vs us → sp vs H Q E →
    codeAny (model P w) A (.call (.ref f) args) (CR L2.CX0 out P w H s Q E) s
theorem FnG.of {P : Program} {w : World} {K : PySem.W.Frag} {mg : Str → Option Value} {base : Heap} {k : Nat} {f : Addr} {fd : FuncData} {ps : List Str} {sp : Sp} (F : FnOk P w K mg base L2.CX0 k f fd ps sp) : FnG P w K mg base k f fd ps sp :=
  ⟨F.len, fun A o s H args us vs Q E hr _ e hb hv hs => F.run A o s H args us vs Q E hr e hb hv hs⟩

/-- a def of the text whose body may show lists -/
theorem fnG_of {P : Program} {w : World} {K : PySem.W.Frag} {mg : Str → Option Value} {base : Heap} {k : Nat} {x qual : Str} {st : Stmt} {f : Addr} {fd : FuncData} {N ps : List Str} {sp : Sp}
    (F : Fun K x qual st f fd) (S : FnScope N ps (defScope st)) (hl : ∀ vs H Q E, sp vs H Q E → vs.length = ps.length)
    (bd : ∀ (cv : Value) (A : Around) (out : List Env) (s : Shared) (H : Hp) (vs : List V) (Q : VK) (E : XK), Room k (A.deeper (envOfC qual (defScope st) s.heap.objs.size f cv)) → A.guards = some [] → sp vs H Q E →
      ∃ t, PSs (cxOf L2.CX0 P w K mg base N qual (defScope st) f cv A out s H E).nox (defBody st) t ∧ t { nx := fun _ H' => Q .non H', rt := Q } (L2.start N vs) H) :
    FnG P w K mg base (k + 1) f fd ps sp := by
  obtain ⟨oc, od, kV, dc, pm, an, cv, ct, sl, rfl, lk, hcd⟩ := F.ex
  refine ⟨hl, ?_⟩
  intro A out s H args us vs Q E hr hgd e0 hb r hsp
  have inK : K.In s.heap := e0.mod.kin.keeps (fun b o e => (e0.bs b o e).1)
  have noL : s.heap.NoLimit := e0.mod.nolimit.keeps (fun b o e => (e0.bs b o e).1)
  have kinds : ∀ y ∈ ps.zip us, (defScope st).names.lookup y.1 = some .local ∨
      ((defScope st).names.lookup y.1 = some .cell ∧ ((cellsFrom (s.heap.objs.size + 1) (defScope st).names []).lookup y.1).isSome = true) := by
    intro y hy
    obtain ⟨n, v⟩ := y
    cases S.par n (List.of_mem_zip hy).1 with
    | inl q => exact Or.inl q
    | inr q => exact Or.inr ⟨q, PySem.W.cellsFrom_some _ _ _ (Or.inl q)⟩
  refine codeAny_call_function hr.depth (inK _ _ lk) rfl S.co S.gen rfl (PySem.W.codeRec_of inK hcd) (hb _ _ _ _ ?_)
  refine wpAny_newFunctionEnv_cells S.kind kinds (fun env he s1 ic => ?_)
  cases he
  refine ⟨noL.keeps ic.toInCall.keep, codeAny_func ?_⟩
  obtain ⟨t, ht, hq⟩ := bd cv A out s H vs Q E (hr.deeper _) hgd hsp
  have J0 := inv_start (CX := L2.CX0) (E := E) S hr.hd e0 (hl _ _ _ _ hsp) r ic
  refine wpAny_mono (ht.nox.run [] s1 (L2.start N vs) H _ J0 hq) ?_ (fun _ _ z => z)
  intro fl s' hs
  cases fl with
  | ret u =>
    obtain ⟨v, σ2, H2, J, rv, q⟩ := hs
    exact ⟨v, H2, J.os, J.bare, J.base, J.hok, rv, q⟩
  | next =>
    obtain ⟨σ2, H2, J, q⟩ := hs
    exact ⟨V.non, H2, J.os, J.bare, J.base, J.hok, rfl, q⟩
  | brk => exact False.elim hs.choose_spec.choose_spec.2
  | cont => exact False.elim hs.choose_spec.choose_spec.2

section
variable {X : Cx} {k : Nat} {f : Addr} {fd : FuncData} {ps : List Str} {sp : Sp} {E : XK} {x : Str} {p pos : Pos} {e : Expr} {es : List Expr} {t : TA}
/-- f(e, ..) of such a def -/
theorem peG_call (F : FnG X.prog X.w X.K X.mg X.base k f fd ps sp) (hgd : X.A.guards = some []) (hr : Room k X.A) (hg : Gl X x) (hm : X.mg x = some (.ref f)) (hk : PySem.W.keepIn X.K (.ref f) = true) (hb : Binds X.K fd ps [])
    (ha : PA X (e :: es) t) (hdb : (x == ("__debug__" : Str)) = false := by decide) (he : starEach (e :: es) X.env = (false, eval e X.env) :: starEach es X.env := by rfl)
    (hpl : (backTo pos (starEach es X.env)).any (·.1) = false := by rfl) : PE X (.Call (.Name x p) (e :: es) [] pos) (tCall sp [] E t) := by
  constructor
  intro pins s σ H Q I h
  refine wpAny_Call_Name_kw (ld_glob I hg hm ?_ hdb)
  refine PySem.W.callWith_K (h₀ := X.base) I.ok.mod.kin hk (thn (ha.run pos pins s σ H _ I h) ?_) he hpl
  intro us s1 hh
  obtain ⟨vs, H1, I1, r, q⟩ := hh
  refine ⟨I1.kIn, ?_⟩
  have q' : sp vs H1 Q E := by
    have z : sp (vs ++ []) H1 Q E := q
    rw [List.append_nil] at z
    exact z
  have hln : us.length = ps.length := by rw [← r.length]; exact F.ln _ _ _ _ q'
  have bb := hb s1 us I1.kIn (by rw [List.append_nil]; exact hln)
  rw [List.append_nil] at bb
  refine wpAny_call (codeAny_mono (F.go X.A X.stack s1 H1 ⟨us, []⟩ us vs Q E hr hgd I1.env0 bb r q') ?_)
  intro rr s' hq
  match rr, hq with
  | .error _, hq => exact False.elim hq
  | .ok (.ret _), hq => exact I1.after hq
  | .ok .next, hq => exact False.elim hq
  | .ok .brk, hq => exact False.elim hq
  | .ok .cont, hq => exact False.elim hq
end

/-- the law's call, by such a def's promise -/
theorem lawG_call {P : Program} {w : World} {K : PySem.W.Frag} {mg mb : Str → Option Value} {k : Nat} {fa a : Addr} {fd : FuncData} {x : Str} {sp : Sp} {s₁ : Shared} {vs : List Value} {ns : List Int}
    (KX : K.In s₁.heap) (gN : s₁.heap.Ns mainGlobals mg) (bN : s₁.heap.Ns builtinsNs mb) (bB : ∀ x : Str, x ≠ "__name__" → mb x = bootBuiltins x) (lim : s₁.heap.NoLimit) (hg : s₁.gens = #[])
    (ha : s₁.heap.get? a = some { cls := .type "list", data := .seq vs.toArray }) (hi : IntsAre vs ns) (hl : ns.length ≤ sizeLine) (hr : Room k callerA)
    (F : ∀ base : Heap, K.In base → base.Ns mainGlobals mg → FnG P w K mg base k fa fd [x] sp) (hbind : ∀ (s : Shared) (u : Value), BindsTo s fd ⟨[u], []⟩ [(x, u)])
    (hsp : ∀ H : Hp, Only H → SqL K H a (ns.map V.int) → sp [.ref a] H (fun v _ => v = .bl true) fun _ _ _ => False) :
    codeAny (model P w) callerA (.call (.ref fa) ⟨[.ref a], []⟩) (fun r s' => r = .ok (.ret (.bool true)) ∧ OldK s₁.heap s'.heap ∧ s'.os = s₁.os ∧ AllBare s'.gens) s₁ := by
  have rv := vals_ints hi
  have main : ∀ H : Hp, Only H → SqL K H a (ns.map V.int) → HOk P w H s₁.heap → (∀ b, H b ≠ none → b = a) → (H a ≠ none → K.lookup a = none) →
      codeAny (model P w) callerA (.call (.ref fa) ⟨[.ref a], []⟩) (fun r s' => r = .ok (.ret (.bool true)) ∧ OldK s₁.heap s'.heap ∧ s'.os = s₁.os ∧ AllBare s'.gens) s₁ := by
    intro H hO hS hok only noK
    have up : ∀ {b : Addr} {o : Obj}, s₁.heap.get? b = some o → H b = none → (hidT s₁.heap H).get? b = some o := fun e n => hidT_get e n
    have free : ∀ {b : Addr}, b ≠ a → H b = none := by
      intro b hb
      cases q : H b with
      | none => rfl
      | some u => exact absurd (only b (by rw [q]; exact Option.some_ne_none u)) hb
    have nsU : ∀ {b : Addr} {m : Str → Option Value}, s₁.heap.Ns b m → (hidT s₁.heap H).Ns b m := by
      intro b m hm
      obtain ⟨o, es, ep, e, d, r⟩ := hm
      refine ⟨o, es, ep, up e (free ?_), d, r⟩
      intro z
      subst z
      rw [ha] at e
      cases e
      cases (show Data.seq vs.toArray _ = Data.dict es ep from d)
    have kU : K.In (hidT s₁.heap H) := by
      intro b o e
      refine up (KX b o e) ?_
      cases q : H b with
      | none => rfl
      | some u =>
        have z : b = a := only b (by rw [q]; exact Option.some_ne_none u)
        subst z
        rw [noK (by rw [q]; exact Option.some_ne_none u)] at e
        cases e
    have md : Mod K mg (hidT s₁.heap H) := by
      refine ⟨kU, nsU gN, ⟨mb, nsU bN, bB⟩, ?_⟩
      obtain ⟨mc, h1, h2⟩ := lim
      exact ⟨mc, nsU h1, h2⟩
    have e0 : Env0 P w K mg (hidT s₁.heap H) callerA [] s₁ H := by
      refine ⟨rfl, md, fun b o e => of_hidT e, Nat.le_of_eq (hidT_size _ _), trivial, ?_, hok, .of_eq hg⟩
      intro b hb
      exact absurd hb (List.not_mem_nil)
    refine codeAny_mono ((F _ kU (nsU gN)).go callerA [] s₁ H ⟨[.ref a], []⟩ [.ref a] [.ref a] _ _ hr rfl e0 (hbind s₁ (.ref a)) (.cons rfl .nil) (hsp H hO hS)) ?_
    intro rr s' h
    match rr, h with
    | .error _, h => exact False.elim h
    | .ok .next, h => exact False.elim h
    | .ok .brk, h => exact False.elim h
    | .ok .cont, h => exact False.elim h
    | .ok (.ret u), h =>
      obtain ⟨v, H', os, bare, un, hok', r', q⟩ := h
      cases (show v = .bl true from q)
      cases (show u = Value.bool true from r')
      refine ⟨rfl, OldK.of_keep ?_, os, bare⟩
      intro b o e
      cases q : H b with
      | none => exact un.keep b o e q List.not_mem_nil List.not_mem_nil
      | some u =>
        cases hO b with
        | inl z => rw [q] at z; cases z
        | inr z =>
          obtain ⟨ob, xs, z⟩ := z
          have w1 := (hok b _ z).1
          have w2 := (hok' b _ (un.frzs b ob _ z)).1
          rw [e] at w1
          cases w1
          exact w2
  cases hk : K.lookup a with
  | some o =>
    have e := KX a o hk
    rw [ha] at e
    cases e
    have sq : SqL K (fun _ => none) a (ns.map V.int) := by
      refine Or.inr ⟨_, vs.toArray, _, hk, rfl, rfl, rfl, ?_, ?_⟩
      · rw [List.size_toArray, hi.length]
        exact hl
      · simpa using rv
    exact main (fun _ => none) (fun _ => Or.inl rfl) sq (fun b u z => nomatch z) (fun b z => absurd rfl z) (fun z => absurd rfl z)
  | none =>
    let Hs : Hp := fun b => if b = a then some (.frz { cls := .type "list", data := .seq vs.toArray } (.lst (ns.map V.int))) else none
    have hs1 : Hs a = some (.frz { cls := .type "list", data := .seq vs.toArray } (.lst (ns.map V.int))) := if_pos rfl
    have hs2 : ∀ b, b ≠ a → Hs b = none := fun b hb => if_neg hb
    refine main Hs ?_ (Or.inl (Or.inr ⟨_, hs1⟩)) ?_ ?_ (fun _ => hk)
    · intro b
      by_cases hb : b = a
      · subst hb
        exact Or.inr ⟨_, _, hs1⟩
      · exact Or.inl (hs2 b hb)
    · intro b u z
      by_cases hb : b = a
      · subst hb
        rw [hs1] at z
        cases z
        refine ⟨ha, ?_, vs, _, rv, ha⟩
        rw [List.length_map]
        exact hl
      · rw [hs2 b hb] at z
        cases z
    · intro b z
      by_cases hb : b = a
      · exact hb
      · exact absurd (hs2 b hb) z
theorem walkG_of {l : PySem.W.OpenLaw} {n k : Nat} {q : Program} {loose : List Str} {XP : (Str → Option Value) → Heap → Prop} {YP : World → Heap → Prop} {d : DefRec} {K : Params → PySem.W.Frag} {sp : World → Sp} {x : Str}
    (hn : l.most = some n) (n2 : n ≤ sizeLine) (df : d.params.defaults = []) (hr : Room k callerA) (hY : ∀ (w : World) (h : Heap), YP w h → (K w.params).In h)
    (F : ∀ (w : World) (mg : Str → Option Value) (fa : Addr) (h : Heap), (K w.params).In h → h.Ns mainGlobals mg → mg d.name = some (.ref fa) → ∃ fd : FuncData, (∀ (s : Shared) (u : Value), BindsTo s fd ⟨[u], []⟩ [(x, u)]) ∧
      ∀ base : Heap, (K w.params).In base → base.Ns mainGlobals mg → FnG l.prog w (K w.params) mg base k fa fd [x] (sp w))
    (hsp : ∀ (w : World) (H : Hp) (a : Addr) (ns : List Int), ns.length ≤ n → Only H → SqL (K w.params) H a (ns.map V.int) → sp w [.ref a] H (fun v _ => v = .bl true) fun _ _ _ => False) :
    PySem.W.WalkO q loose XP YP l.row.toRowW d [] (fun f vs => PySem.call f vs) := by
  refine Att.attach_call hn df ?_
  intro w s₀ s₁ mg mb fa o pm cd doc a vs ns G Y ho hd hcd hmg hobj hints hlen hg
  have inK := hY w _ Y
  obtain ⟨fd, hb, hF⟩ := F w mg fa _ inK G.T.g hmg
  exact lawG_call inK G.T.g G.T.b G.T.builtins G.T.nolimit hg hobj hints (Nat.le_trans hlen n2) hr hF hb (fun H hO hS => hsp w H a ns hlen hO hS)

/-! ### repr of data -/
/-- repr(x), x plain data -/
def rRepr (K : PySem.W.Frag) : List V → Hp → VK → Prop := fun xs H Q => ∃ x d, xs = [x] ∧ Dp K H x d ∧ d.showable = true ∧ d.hasDict = false ∧ d.depth ≤ 60 ∧ d.shown.length ≤ sizeLine ∧ Q (.str d.shown) H
theorem call_repr {X : Cx} (hgd : X.A.guards = some []) (hu : X.A.units + 64 < cLine) : CallR X (.builtin "repr") (rRepr X.K) := by
  intro pins s σ H xs us Q I r h
  obtain ⟨x, d, rfl, hd, hsh, hdi, hdp, hsz, q⟩ := h
  obtain ⟨u, rfl, rx⟩ := vals1 r
  obtain ⟨as, rr⟩ := Dp.reads I d x u hd rx
  have fin : ∀ (h' : Heap) (tt : Tok) (tk : Nat), (∀ b o, s.heap.get? b = some o → h'.get? b = some o) → EP X pins σ Q (.str d.shown tt) { s with heap := h', toks := tk } :=
    fun h' tt tk k => ⟨.str d.shown, H, I.kept k, ⟨tt, rfl⟩, q⟩
  have go : ∀ a, u = .ref a → wpAny (model X.prog X.w) X.A (call (.builtin "repr") [u]) (EP X pins σ Q) X.xe s := by
    intro a e
    subst e
    exact repr_of_reads' rr hsh (fun z => absurd z (by rw [hdi]; decide)) hgd (by omega) (fun _ _ e => e) (fun h' tt tk k => fin h' tt tk k) hsz
  cases rr with
  | none => exact PySem.P.repr_of_none (fin _ _ _ fun _ _ e => e)
  | bool b => exact PySem.P.repr_of_bool (fin _ _ _ fun _ _ e => e)
  | int i t =>
    have hb : i.natAbs.log2 < 1920 := by simpa [PyData.showable] using hsh
    exact PySem.P.repr_of_int hb (fin _ _ _ fun _ _ e => e)
  | str y t => exact PySem.P.repr_of_str (fin _ _ _ fun _ _ e => e) (by simpa [PyData.shown] using hsz)
  | list => exact go _ rfl
  | tuple => exact go _ rfl
  | dict => exact go _ rfl
end Pg

set_option Elab.async false
set_option linter.all false
set_option maxRecDepth 100000
set_option maxHeartbeats 2000000
namespace Pd
open PySem PySem.Spec PyProof.Rows L2

/-! ### a value for a name: a datum, or a new list of one's own -/
def SlV (W : Wo) (H G' H' : Hp) (v : V) : Sl → Prop
  | .dat d => Dr W.K G' v d
  | .mu ds => ∃ a xs, v = .ref a ∧ H a = none ∧ H' a = some (.lst xs) ∧ G' a = none ∧ DrAll W.K G' xs ds
  | _ => False
def VD (Γ : Cn) (te : TE) (δ : List Sl) (P : Sl → Prop) : Prop :=
  ∀ G H σ (Q : VK), At Γ δ G H σ → (∀ v s G' H', Fr Γ.W G H G' H' → Good Γ.W G' H' → SlV Γ.W H G' H' v s → P s → Q v H') → te σ H Q
section
variable {Γ : Cn} {δ : List Sl} {te ta tb tc : TE}
theorem vd_ed {P : Sl → Prop} (h : ED Γ te δ fun d => P (.dat d)) : VD Γ te δ P := fun G H σ Q at_ k => h G H σ Q at_ fun v d G' H' f g r p => k v (.dat d) G' H' f g r p
theorem vd_nl {P : Sl → Prop} (h : NL Γ te δ fun ds => P (.mu ds)) : VD Γ te δ P := fun G H σ Q at_ k => h G H σ Q at_ fun a xs ds G' H' f g h1 h2 h3 r p => k (.ref a) (.mu ds) G' H' f g ⟨a, xs, rfl, h1, h2, h3, r⟩ p
/-- what a slot may be given -/
def OwnV (W : Wo) (H0 G H : Hp) (v : V) : Sl → Prop
  | .dat d => Dr W.K G v d
  | .mu ds => ∃ a xs, v = .ref a ∧ H a = some (.lst xs) ∧ G a = none ∧ H0 a = none ∧ W.M ≠ some a ∧ DrAll W.K G xs ds
  | _ => False
theorem SlV.own {G H G' H' : Hp} {σ : L2.St} {v : V} {s : Sl} (at_ : At Γ δ G H σ) (h : SlV Γ.W H G' H' v s) : OwnV Γ.W Γ.H0 G' H' v s := by
  cases s with
  | dat d => exact h
  | mu ds =>
    obtain ⟨a, xs, h1, h2, h3, h4, h5⟩ := h
    exact ⟨a, xs, h1, h3, h4, at_.h0 h2, at_.gd.nm h2, h5⟩
  | un => exact h.elim
  | slf C fs => exact h.elim
theorem OwnV.step {W : Wo} {H0 G H G' H' : Hp} {v : V} {s : Sl} (h : OwnV W H0 G H v s) (f : Fr W G H G' H') : OwnV W H0 G' H' v s := by
  cases s with
  | dat d => exact Dr.mono f.g h
  | mu ds =>
    obtain ⟨a, xs, h1, h2, h3, h4, h5, h6⟩ := h
    obtain ⟨k1, k2⟩ := f.o a _ h2 h3
    exact ⟨a, xs, h1, k2 h5, k1, h4, h5, h6.mono f.g⟩
  | un => exact h.elim
  | slf C fs => exact h.elim
theorem EnvOk.setS {W : Wo} {H0 G H : Hp} {σ : L2.St} {δ : List Sl} (e : EnvOk W H0 G H σ δ) {i : Nat} {v : V} {s : Sl} (h : OwnV W H0 G H v s)
    (hn : s.own = true → ∀ (j : Nat) (t : Sl), i ≠ j → δ[j]? = some t → t.own = true → σ[j]? ≠ some (some v)) : EnvOk W H0 G H (σ.set i (some v)) (δ.set i s) := by
  cases s with
  | dat d => exact e.set h
  | mu ds =>
    obtain ⟨a, xs, rfl, h2, h3, h4, h5, h6⟩ := h
    exact e.setMu h2 h3 h4 h5 h6 fun j t hj ht to => hn rfl j t hj ht to
  | un => exact h.elim
  | slf C fs => exact h.elim
/-- no slot owns what was new -/
theorem At.apart {G H : Hp} {σ : L2.St} (at_ : At Γ δ G H σ) {a : Addr} (ha : H a = none) : ∀ (j : Nat) (t : Sl), δ[j]? = some t → t.own = true → σ[j]? ≠ some (some (.ref a)) := by
  intro j t ht to z
  cases t with
  | un => cases to
  | dat d => cases to
  | mu ds =>
    obtain ⟨b, ys, k1, k2, _⟩ := at_.env.mu j ds ht
    rw [k1] at z
    cases z
    rw [ha] at k2
    cases k2
  | slf C fds =>
    obtain ⟨b, dx, ys, k1, k2, _⟩ := at_.env.slf j C fds ht
    rw [k1] at z
    cases z
    rw [ha] at k2
    cases k2
theorem SlV.apart {G H G' H' : Hp} {σ : L2.St} {v : V} {s : Sl} (at_ : At Γ δ G H σ) (h : SlV Γ.W H G' H' v s) : s.own = true → ∀ (j : Nat) (t : Sl), δ[j]? = some t → t.own = true → σ[j]? ≠ some (some v) := by
  intro so j t ht to
  cases s with
  | dat d => cases so
  | mu ds =>
    obtain ⟨a, xs, rfl, h2, _⟩ := h
    exact at_.apart h2 j t ht to
  | un => cases so
  | slf C fs => exact h.elim
theorem sd_asgV {i : Nat} {D : De} (h : VD Γ te δ fun s => D.nx (δ.set i s)) : SD Γ (tAsg te (gName i)) δ D := fun G H σ E at_ hn hr hb hc =>
  h G H σ _ at_ fun v s G1 H1 f1 g1 r p => hn _ G1 H1 _ f1.g ⟨at_.fr.trans f1 g1, g1, (at_.env.step f1).setS (r.own at_) fun so j t _ ht to => r.apart at_ so j t ht to⟩ p
theorem SlV.ne {G H G1 H1 G2 H2 : Hp} {σ : L2.St} {v w : V} {s t : Sl} (at_ : At Γ δ G H σ) (h : SlV Γ.W H G1 H1 v s) (h' : SlV Γ.W H1 G2 H2 w t) (so : s.own = true) (to : t.own = true) : v ≠ w := by
  cases s with
  | dat d => cases so
  | un => cases so
  | slf C fs => exact h.elim
  | mu ds =>
    cases t with
    | dat d => cases to
    | un => cases to
    | slf C fs => exact h'.elim
    | mu es =>
      obtain ⟨a, xs, rfl, h2, h3, _⟩ := h
      obtain ⟨b, ys, rfl, k2, k3, _⟩ := h'
      intro z
      cases z
      rw [k2] at h3
      cases h3
theorem sd_par {i j : Nat} {D : De} (hij : i ≠ j) (h : VD Γ ta δ fun s => VD Γ tb δ fun t => D.nx ((δ.set i s).set j t)) : SD Γ (tPar i j (tCons ta (tCons tb tNil))) δ D := fun G H σ E at_ hn hr hb hc =>
  h G H σ _ at_ fun v s G1 H1 f1 g1 r1 p1 => by
    have at1 := at_.step f1 g1
    refine p1 G1 H1 σ _ at1 fun w t G2 H2 f2 g2 r2 p2 => ⟨v, w, rfl, ?_⟩
    refine hn _ G2 H2 _ (f1.g.trans f2.g) ⟨at1.fr.trans f2 g2, g2, ?_⟩ p2
    refine ((at1.env.step f2).setS ((r1.own at_).step f2) fun so j' t' _ ht to => ?_).setS (r2.own at1) fun to k t' hk ht' to' => ?_
    · exact r1.apart at_ so j' t' ht to
    · rw [set_get] at ht' ⊢
      by_cases q : i = k
      · rw [if_pos q] at ht' ⊢
        split at ht'
        · cases ht'
          split
          · intro z
            exact r1.ne at_ r2 to' to (Option.some.inj (Option.some.inj z))
          · intro z
            cases z
        · cases ht'
      · rw [if_neg q] at ht' ⊢
        exact r2.apart at1 to k t' ht' to'

/-! ### an own list becomes the object that callees may change -/
theorem fr_enter {W : Wo} {a : Addr} {J : HO → Prop} {G0 H0 G H : Hp} (hm : W.M = none) (h0 : H0 a = none) (f : Fr ⟨W.K, some a, J⟩ G0 H0 G H) : Fr W G0 H0 G H :=
  ⟨f.g, fun b u e g => by
    obtain ⟨k1, k2⟩ := f.o b u e g
    refine ⟨k1, fun _ => k2 fun z => ?_⟩
    cases z
    rw [h0] at e
    cases e⟩
theorem good_leave {W : Wo} {a : Addr} {J : HO → Prop} {G H : Hp} (hm : W.M = none) (g : Good ⟨W.K, some a, J⟩ G H) : Good W G H := ⟨g.sub, fun b e => by rw [hm] at e; cases e⟩
def Cn.enter (Γ : Cn) (a : Addr) (J : HO → Prop) (hm : Γ.W.M = none) (h0 : Γ.H0 a = none) : Cn where
  W := ⟨Γ.W.K, some a, J⟩
  G0 := Γ.G0
  H0 := Γ.H0
  E := Γ.E
  X := Γ.X
  hE := fun C d fds G H f g x hx => Γ.hE C d fds G H (fr_enter hm h0 f) (good_leave hm g) x hx
theorem sd_enter {i : Nat} {ds : List Dt} {ts : TS} {D : De} (J : HO → Prop) (hm : Γ.W.M = none) (hi : δ[i]? = some (.mu ds)) (hj : ∀ G xs, DrAll Γ.W.K G xs ds → J (.lst xs))
    (h : ∀ a h0, SD (Γ.enter a J hm h0) ts (δ.set i (.dat (.raw (.ref a)))) D) : SD Γ ts δ D := fun G H σ E at_ hn hr hb hc => by
  obtain ⟨a, xs, h1, h2, h3, h4, h5, h6⟩ := at_.env.mu i ds hi
  have hlen : i < δ.length := (List.getElem?_eq_some_iff.mp hi).1
  have env2 : EnvOk ⟨Γ.W.K, some a, J⟩ Γ.H0 G H σ (δ.set i (.dat (.raw (.ref a)))) := {
    len := by rw [List.length_set]; exact at_.env.len
    dat := fun j d hj => by
      rw [set_get] at hj
      by_cases q : i = j
      · rw [if_pos q, if_pos hlen] at hj
        cases hj
        subst q
        exact ⟨.ref a, h1, .raw _⟩
      · rw [if_neg q] at hj
        exact at_.env.dat j d hj
    mu := fun j ds' hj => by
      rw [set_get] at hj
      by_cases q : i = j
      · rw [if_pos q, if_pos hlen] at hj
        cases hj
      · rw [if_neg q] at hj
        obtain ⟨b, ys, k1, k2, k3, k4, k5, k6⟩ := at_.env.mu j ds' hj
        refine ⟨b, ys, k1, k2, k3, k4, fun z => ?_, k6⟩
        cases z
        exact at_.env.sep i j a _ _ q hi hj rfl rfl h1 k1
    slf := fun j C fds hj => by
      rw [set_get] at hj
      by_cases q : i = j
      · rw [if_pos q, if_pos hlen] at hj
        cases hj
      · rw [if_neg q] at hj
        obtain ⟨b, dx, ys, k1, k2, k3, k4, k5, k6, k7, k8, k9, k10⟩ := at_.env.slf j C fds hj
        refine ⟨b, dx, ys, k1, k2, k3, k4, k5, k6, k7, fun z => ?_, fun z => ?_, k10⟩
        · cases z; rw [h2] at k2; cases k2
        · cases z; rw [h2] at k3; cases k3
    sep := fun j k b s t hjk hj hk so to z => by
      rw [set_get] at hj hk
      by_cases q : i = j
      · rw [if_pos q, if_pos hlen] at hj
        cases hj
        cases so
      · rw [if_neg q] at hj
        by_cases q2 : i = k
        · rw [if_pos q2, if_pos hlen] at hk
          cases hk
          cases to
        · rw [if_neg q2] at hk
          exact at_.env.sep j k b s t hjk hj hk so to z }
  have fr2 : Fr ⟨Γ.W.K, some a, J⟩ Γ.G0 Γ.H0 G H := ⟨at_.fr.g, fun b u e g => by
    obtain ⟨k1, k2⟩ := at_.fr.o b u e g
    exact ⟨k1, fun _ => k2 (fun z => by rw [hm] at z; cases z)⟩⟩
  have gd2 : Good ⟨Γ.W.K, some a, J⟩ G H := ⟨at_.gd.sub, fun b e => by cases e; exact ⟨h3, _, h2, hj G xs h6⟩⟩
  have back : ∀ {δ' : List Sl} {G' H' : Hp} {σ' : L2.St}, At (Γ.enter a J hm h4) δ' G' H' σ' → At Γ δ' G' H' σ' := fun {δ' G' H' σ'} z =>
    ⟨fr_enter hm h4 z.fr, good_leave hm z.gd, {
      len := z.env.len
      dat := z.env.dat
      mu := fun j ds' hj => by
        obtain ⟨b, ys, k1, k2, k3, k4, k5, k6⟩ := z.env.mu j ds' hj
        exact ⟨b, ys, k1, k2, k3, k4, (fun z => by rw [hm] at z; cases z), k6⟩
      slf := fun j C fds hj => by
        obtain ⟨b, dx, ys, k1, k2, k3, k4, k5, k6, k7, k8, k9, k10⟩ := z.env.slf j C fds hj
        exact ⟨b, dx, ys, k1, k2, k3, k4, k5, k6, k7, (fun z => by rw [hm] at z; cases z), (fun z => by rw [hm] at z; cases z), k10⟩
      sep := z.env.sep }⟩
  exact h a h4 G H σ E ⟨fr2, gd2, env2⟩ (fun δ' G' H' σ' e z q => hn δ' G' H' σ' e (back z) q) (fun v d G' H' f g r q => hr v d G' H' (fr_enter hm h4 f) (good_leave hm g) r q)
    (fun δ' G' H' σ' e z q => hb δ' G' H' σ' e (back z) q) (fun δ' G' H' σ' e z q => hc δ' G' H' σ' e (back z) q)
end

/-! ### operators, by any data -/
def rAddA (K : PySem.W.Frag) : R2 := fun x y H Q => (rI0 (fun i j => .int (i + j)) x y H Q ∨ ∃ i j, x = .str i ∧ y = .str j ∧ i.length + j.length ≤ sizeLine ∧ Q (.str (i ++ j)) H) ∨ (rCat x y H Q ∨ rCatA K x y H Q)
theorem opAdd {X : Cx} : OpR X (binaryOp .Add) (rAddA X.K) := (op_add.or op_add_str).or (op_cat.or op_catA)
def rMulA : R2 := fun x y H Q => rI CMul (fun i j => .int (i * j)) x y H Q ∨ rRep x y H Q
theorem opMul {X : Cx} : OpR X (binaryOp .Mult) rMulA := op_mul.or op_rep
def rEqA (K : PySem.W.Frag) : R2 := fun x y H Q => rEqD K x y H Q ∨ rEq x y H Q
theorem opEq {X : Cx} (hu : X.A.units + 64 < cLine) : OpR X (compareOp .Eq) (rEqA X.K) := (op_eqD hu).or op_eq
def rNeA (K : PySem.W.Frag) : R2 := fun x y H Q => rNeD K x y H Q ∨ rNe x y H Q
theorem opNe {X : Cx} (hu : X.A.units + 64 < cLine) : OpR X (compareOp .NotEq) (rNeA X.K) := (op_neD hu).or op_ne
def rInA (K : PySem.W.Frag) : R2 := fun x y H Q => (rInD K x y H Q ∨ rIn K false x y H Q) ∨ ((∃ (c : Nat) (z : Str), x = .str ⟨#[c]⟩ ∧ y = .str z ∧ Q (.bl (decide (c ∈ z.cps.toList))) H) ∨ ∃ i j, x = .str i ∧ y = .str j ∧ Q (.bl (!(Builtin.Str.occurrences j i 0 j.length 1).isEmpty)) H)
theorem opIn {X : Cx} (hu : X.A.units + 65 < cLine) : OpR X (compareOp .In) (rInA X.K) := ((op_inD hu).or op_in_seq).or (op_in_sign.or op_in_str)
def rNotInA (K : PySem.W.Frag) : R2 := fun x y H Q => rNotInD K x y H Q ∨ rIn K true x y H Q
theorem opNotIn {X : Cx} (hu : X.A.units + 65 < cLine) : OpR X (compareOp .NotIn) (rNotInA X.K) := (op_notInD hu).or op_notIn_seq
def rSlAny (K : PySem.W.Frag) : V → Option Int → Option Int → Hp → VK → Prop := fun x lo hi H Q => (rSlL K x lo hi H Q ∨ rSlS x lo hi H Q) ∨ rSlA K x lo hi H Q
theorem slAny {X : Cx} : L2.SlR X (rSlAny X.K) := (sl_list.or sl_str).or sl_tupA
section
variable {W : Wo} {P : Dt → Prop}
theorem od_of {r : R2} {x y z : Dt} (h : ∀ G H v w (Q : VK), Good W G H → Dv W G H v x → Dv W G H w y → (∀ u, Dr W.K G u z → Q u H) → r v w H Q) (p : P z) : OD W r x y P := fun G H v w Q g hv hw k =>
  h G H v w Q g hv hw fun u r => k u z G H (Fr.refl _ _ _) g r p
theorem od_addI {i j : Int} (p : P (.int (i + j))) : OD W (rAddA W.K) (.int i) (.int j) P := od_of (fun G H v w Q g hv hw k => by
  cases hv.int; cases hw.int; exact .inl (.inl ⟨i, j, rfl, rfl, k _ (.int _)⟩)) p
theorem od_addS {x y : Str} (hl : x.length + y.length ≤ 100000) (p : P (.str (x ++ y))) : OD W (rAddA W.K) (.str x) (.str y) P := od_of (fun G H v w Q g hv hw k => by
  cases hv.str; cases hw.str; exact .inl (.inr ⟨x, y, rfl, rfl, Nat.le_trans hl (by decide), k _ (.str _)⟩)) p
theorem od_addL {xs ys : List Dt} (hl : xs.length + ys.length ≤ 100000) (p : P (.lst (xs ++ ys))) : OD W (rAddA W.K) (.lst xs) (.lst ys) P := fun G H v w Q g hv hw k => by
  obtain ⟨a, us, rfl, h1, r1⟩ := hv.lst g
  obtain ⟨b, ws, rfl, h2, r2⟩ := hw.lst g
  refine .inr (.inl ⟨a, b, us, ws, rfl, rfl, h1, h2, by rw [r1.length, r2.length]; exact Nat.le_trans hl (by decide), fun q hq => ?_⟩)
  exact k _ _ (upd G q (.lst (us ++ ws))) _ (Fr.new g hq) (g.new hq) (.lst upd_same ((r1.append r2).mono (same_new (g.gn hq)))) p
theorem od_addT {xs ys : List Dt} (hl : xs.length + ys.length ≤ 100000) (p : P (.tup (xs ++ ys))) : OD W (rAddA W.K) (.tup xs) (.tup ys) P := fun G H v w Q g hv hw k => by
  obtain ⟨a, us, rfl, h1, r1⟩ := hv.tup
  obtain ⟨b, ws, rfl, h2, r2⟩ := hw.tup
  refine .inr (.inr ⟨a, b, us, ws, rfl, rfl, sqT_mono g.sub h1, sqT_mono g.sub h2, by rw [r1.length, r2.length]; exact Nat.le_trans hl (by decide), fun e => ?_, fun e e2 => ?_, fun e e2 q hq => ?_⟩)
  · subst e
    cases r1
    exact k _ _ G H (Fr.refl _ _ _) g (.tup h2 r2) p
  · subst e2
    cases r2
    rw [List.append_nil] at p
    exact k _ _ G H (Fr.refl _ _ _) g (.tup h1 r1) p
  · exact k _ _ (upd G q (.tup (us ++ ws))) _ (Fr.new g hq) (g.new hq) (.tup (.inl (.inl upd_same)) ((r1.append r2).mono (same_new (g.gn hq)))) p
theorem od_I0 {f : Int → Int → V} {i j : Int} {z : Dt} (hz : ∀ G, Dr W.K G (f i j) z) (p : P z) : OD W (rI0 f) (.int i) (.int j) P := od_of (fun G H v w Q g hv hw k => by
  cases hv.int; cases hw.int; exact ⟨i, j, rfl, rfl, k _ (hz G)⟩) p
theorem od_I {C : Int → Int → Prop} {f : Int → Int → V} {i j : Int} {z : Dt} (hc : C i j) (hz : ∀ G, Dr W.K G (f i j) z) (p : P z) : OD W (rI C f) (.int i) (.int j) P := od_of (fun G H v w Q g hv hw k => by
  cases hv.int; cases hw.int; exact ⟨i, j, rfl, rfl, hc, k _ (hz G)⟩) p
theorem od_subI {i j : Int} (p : P (.int (i - j))) : OD W (rI0 fun i j => .int (i - j)) (.int i) (.int j) P := od_I0 (fun _ => .int _) p
theorem od_lt {i j : Int} (p : P (.bl (decide (i < j)))) : OD W (rI0 fun i j => .bl (decide (i < j))) (.int i) (.int j) P := od_I0 (fun _ => .bl _) p
theorem od_le {i j : Int} (p : P (.bl (decide (i ≤ j)))) : OD W (rI0 fun i j => .bl (decide (i ≤ j))) (.int i) (.int j) P := od_I0 (fun _ => .bl _) p
theorem od_gt {i j : Int} (p : P (.bl (decide (j < i)))) : OD W (rI0 fun i j => .bl (decide (j < i))) (.int i) (.int j) P := od_I0 (fun _ => .bl _) p
theorem od_ge {i j : Int} (p : P (.bl (decide (j ≤ i)))) : OD W (rI0 fun i j => .bl (decide (j ≤ i))) (.int i) (.int j) P := od_I0 (fun _ => .bl _) p
theorem od_mulI {i j : Int} (hc : CMul i j) (p : P (.int (i * j))) : OD W rMulA (.int i) (.int j) P := od_of (fun G H v w Q g hv hw k => by
  cases hv.int; cases hw.int; exact .inl ⟨i, j, rfl, rfl, hc, k _ (.int _)⟩) p
theorem od_rep {xs : List Dt} {n : Nat} (hl : xs.length * n ≤ 100000) (hn : n ≤ 100000) (p : P (.lst (List.replicate n xs).flatten)) : OD W rMulA (.lst xs) (.int (n : Int)) P := fun G H v w Q g hv hw k => by
  obtain ⟨a, us, rfl, h1, r1⟩ := hv.lst g
  cases hw.int
  refine .inr ⟨a, (n : Int), us, rfl, rfl, h1, by omega, by omega, by rw [r1.length, Int.toNat_natCast]; exact Nat.le_trans hl (by decide), fun q hq => ?_⟩
  rw [Int.toNat_natCast]
  exact k _ _ (upd G q (.lst (List.replicate n us).flatten)) _ (Fr.new g hq) (g.new hq) (.lst upd_same ((r1.replicate n).mono (same_new (g.gn hq)))) p
theorem od_mod {i j : Int} (hj : 0 < j) (p : P (.int (i % j))) : OD W (rI (fun _ j => 0 < j) fun i j => .int (i % j)) (.int i) (.int j) P := od_I (C := fun _ j => 0 < j) hj (fun _ => .int _) p
theorem od_div {i j : Int} (hc : CDivW i j) (p : P (.int (i / j))) : OD W (rI CDivW fun i j => .int (i / j)) (.int i) (.int j) P := od_I hc (fun _ => .int _) p
theorem od_pow {i j : Int} (hc : CPow i j) (p : P (.int (i ^ j.toNat))) : OD W (rI CPow fun i j => .int (i ^ j.toNat)) (.int i) (.int j) P := od_I hc (fun _ => .int _) p
/-! == and in -/
theorem od_eq {x y : Dt} {p q : PyData} (hx : toPy x = some p) (hy : toPy y = some q) (sp : SeqAt.shaped p = true) (sq : SeqAt.shaped q = true) (k0 : P (.bl (PyData.eqv p q))) : OD W (rEqA W.K) x y P := od_of (fun G H v w Q g hv hw k =>
  .inl ⟨p, q, (hv.dr g).dp hx, (hw.dr g).dp hy, sp, sq, k _ (.bl _)⟩) k0
theorem od_ne {x y : Dt} {p q : PyData} (hx : toPy x = some p) (hy : toPy y = some q) (sp : SeqAt.shaped p = true) (sq : SeqAt.shaped q = true) (k0 : P (.bl (!PyData.eqv p q))) : OD W (rNeA W.K) x y P := od_of (fun G H v w Q g hv hw k =>
  .inl ⟨p, q, (hv.dr g).dp hx, (hw.dr g).dp hy, sp, sq, k _ (.bl _)⟩) k0
theorem od_eqS {x y : Str} (k0 : P (.bl (decide (x = y)))) : OD W (rEqA W.K) (.str x) (.str y) P := od_of (fun G H v w Q g hv hw k => by
  cases hv.str; cases hw.str
  refine .inr ⟨rfl, ?_⟩
  have e : decide (V.str x = V.str y) = decide (x = y) := by
    by_cases h : x = y
    · rw [decide_eq_true h, decide_eq_true (congrArg V.str h)]
    · rw [decide_eq_false h, decide_eq_false (fun z => h (V.str.inj z))]
  rw [e]
  exact k _ (.bl _)) k0
theorem od_neS {x y : Str} (k0 : P (.bl (!decide (x = y)))) : OD W (rNeA W.K) (.str x) (.str y) P := od_of (fun G H v w Q g hv hw k => by
  cases hv.str; cases hw.str
  refine .inr ⟨rfl, ?_⟩
  have e : decide (V.str x = V.str y) = decide (x = y) := by
    by_cases h : x = y
    · rw [decide_eq_true h, decide_eq_true (congrArg V.str h)]
    · rw [decide_eq_false h, decide_eq_false (fun z => h (V.str.inj z))]
  rw [e]
  exact k _ (.bl _)) k0
theorem od_eqI {x y : Int} (k0 : P (.bl (decide (x = y)))) : OD W (rEqA W.K) (.int x) (.int y) P := od_of (fun G H v w Q g hv hw k => by
  cases hv.int; cases hw.int
  refine .inr ⟨rfl, ?_⟩
  have e : decide (V.int x = V.int y) = decide (x = y) := by
    by_cases h : x = y
    · rw [decide_eq_true h, decide_eq_true (congrArg V.int h)]
    · rw [decide_eq_false h, decide_eq_false (fun z => h (V.int.inj z))]
  rw [e]
  exact k _ (.bl _)) k0
theorem od_neI {x y : Int} (k0 : P (.bl (!decide (x = y)))) : OD W (rNeA W.K) (.int x) (.int y) P := od_of (fun G H v w Q g hv hw k => by
  cases hv.int; cases hw.int
  refine .inr ⟨rfl, ?_⟩
  have e : decide (V.int x = V.int y) = decide (x = y) := by
    by_cases h : x = y
    · rw [decide_eq_true h, decide_eq_true (congrArg V.int h)]
    · rw [decide_eq_false h, decide_eq_false (fun z => h (V.int.inj z))]
  rw [e]
  exact k _ (.bl _)) k0
theorem od_inL {x : Dt} {ys : List Dt} {p : PyData} {qs : List PyData} (hx : toPy x = some p) (hy : toPys ys = some qs) (sp : SeqAt.shaped p = true) (sq : SeqAt.shaped (.list qs) = true) (k0 : P (.bl (qs.any fun z => PyData.eqv z p))) : OD W (rInA W.K) x (.lst ys) P := od_of (fun G H v w Q g hv hw k =>
  .inl (.inl ⟨p, qs, (hv.dr g).dp hx, (hw.dr g).dp (by simp only [toPy, hy, Option.map_some]), sp, sq, k _ (.bl _)⟩)) k0
theorem od_notInL {x : Dt} {ys : List Dt} {p : PyData} {qs : List PyData} (hx : toPy x = some p) (hy : toPys ys = some qs) (sp : SeqAt.shaped p = true) (sq : SeqAt.shaped (.list qs) = true) (k0 : P (.bl (!qs.any fun z => PyData.eqv z p))) : OD W (rNotInA W.K) x (.lst ys) P := od_of (fun G H v w Q g hv hw k =>
  .inl ⟨p, qs, (hv.dr g).dp hx, (hw.dr g).dp (by simp only [toPy, hy, Option.map_some]), sp, sq, k _ (.bl _)⟩) k0
theorem od_inSign {c : Nat} {z : Str} (k0 : P (.bl (decide (c ∈ z.cps.toList)))) : OD W (rInA W.K) (.str ⟨#[c]⟩) (.str z) P := od_of (fun G H v w Q g hv hw k => by
  cases hv.str; cases hw.str; exact .inr (.inl ⟨c, z, rfl, rfl, k _ (.bl _)⟩)) k0
/-! items -/
theorem od_ixL {xs : List Dt} {j : Nat} {d : Dt} (h : xs[j]? = some d) (p : P d) : OD W (rIx W.K) (.lst xs) (.int (j : Int)) P := od_of (fun G H v w Q g hv hw k => by
  obtain ⟨a, us, rfl, h1, r1⟩ := hv.lst g
  cases hw.int
  obtain ⟨u, hu, r⟩ := r1.getD h
  exact .inl ⟨a, us, (j : Int), u, rfl, rfl, SqL.of h1, atI_nat hu, k _ r⟩) p
theorem od_ixT {xs : List Dt} {j : Nat} {d : Dt} (h : xs[j]? = some d) (p : P d) : OD W (rIx W.K) (.tup xs) (.int (j : Int)) P := od_of (fun G H v w Q g hv hw k => by
  obtain ⟨a, us, rfl, h1, r1⟩ := hv.tup
  cases hw.int
  obtain ⟨u, hu, r⟩ := r1.getD h
  exact .inr (.inl ⟨a, us, (j : Int), u, rfl, rfl, sqT_mono g.sub h1, atI_nat hu, k _ r⟩)) p
theorem od_ixS {z : Str} {j c : Nat} (hz : z.length ≤ 100000) (h : z.cps.toList[j]? = some c) (p : P (.str ⟨#[c]⟩)) : OD W (rIx W.K) (.str z) (.int (j : Int)) P := od_of (fun G H v w Q g hv hw k => by
  cases hv.str
  cases hw.int
  exact .inr (.inr ⟨z, (j : Int), c, rfl, rfl, Nat.le_trans hz (by decide), atI_nat h, k _ (.str _)⟩)) p
theorem od_ixScr {ns : List Int} {j : Nat} {n : Int} (h : ns[j]? = some n) (p : P (.int n)) : OD W (rIx W.K) (.scr ns) (.int (j : Int)) P := od_of (fun G H v w Q g hv hw k => by
  cases hw.int
  rcases hv with hv | ⟨a, xs, ds, h1, h2, _⟩
  · cases hv with
    | scr h1 => exact .inl ⟨_, _, (j : Int), .int n, rfl, rfl, g.sub.seq h1, atI_nat (by rw [List.getElem?_map, h]; rfl), k _ (.int _)⟩
  · cases h2) p
end
section
variable {Γ : Cn} {δ : List Sl} {te ta tb tc : TE} {P : Dt → Prop}
/-! slices -/
def OdP (Γ : Cn) (t : TO) (δ : List Sl) (P : Option Int → Prop) : Prop := ∀ G H σ (Q : Option Int → Hp → Prop), At Γ δ G H σ → (∀ o G' H', Fr Γ.W G H G' H' → Good Γ.W G' H' → P o → Q o H') → t σ H Q
theorem op_none {P : Option Int → Prop} (p : P none) : OdP Γ tNoPart δ P := fun G H σ Q at_ k => k none G H (Fr.refl _ _ _) at_.gd p
theorem op_some {P : Option Int → Prop} (h : ED Γ te δ fun d => ∃ i, d = .int i ∧ P (some i)) : OdP Γ (tPart te) δ P := fun G H σ Q at_ k =>
  h G H σ _ at_ fun v d G1 H1 f1 g1 r ⟨i, e, p⟩ => by subst e; cases r; exact ⟨i, rfl, k (some i) G1 H1 f1 g1 p⟩
theorem drall_ints {K : PySem.W.Frag} {G : Hp} : ∀ ns : List Int, DrAll K G (ns.map V.int) (ns.map Dt.int)
  | [] => .nil
  | n :: ns => .cons (.int n) (drall_ints ns)
def cutD {α : Type} (xs : List α) (lo hi : Option Int) : List α := (xs.drop (HT.sIx xs.length 0 lo)).take (HT.sIx xs.length xs.length hi - HT.sIx xs.length 0 lo)
theorem DrAll.cut {K : PySem.W.Frag} {G : Hp} {xs : List V} {ds : List Dt} (h : DrAll K G xs ds) (lo hi : Option Int) : DrAll K G (cutV xs lo hi) (cutD ds lo hi) := by
  unfold cutV cutD
  rw [h.length]
  exact (h.drop _).take _
theorem ed_sl {tl th : TO} (h : RD Γ te δ fun x => OdP Γ tl δ fun lo => OdP Γ th δ fun hi => (∃ ds, x = .lst ds ∧ P (.lst (cutD ds lo hi))) ∨ (∃ z, x = .str z ∧ z.length ≤ 100000 ∧ P (.str (cutS z lo hi))) ∨ (∃ ds, x = .tup ds ∧ P (.tup (cutD ds lo hi))) ∨ ∃ ns, x = .scr ns ∧ P (.lst ((cutD ns lo hi).map Dt.int))) :
    ED Γ (tSl (rSlAny Γ.W.K) te tl th) δ P := fun G H σ Q at_ k =>
  h G H σ _ at_ fun v x G1 H1 f1 g1 d1 p1 => p1 G1 H1 σ _ (at_.step f1 g1) fun lo G2 H2 f2 g2 p2 => p2 G2 H2 σ _ ((at_.step f1 g1).step f2 g2) fun hi G3 H3 f3 g3 p3 => by
    have f := (f1.trans f2 g2).trans f3 g3
    have d3 := (d1.step f2).step f3
    rcases p3 with ⟨ds, rfl, p⟩ | ⟨z, rfl, hz, p⟩ | ⟨ds, rfl, p⟩ | ⟨ns, rfl, p⟩
    · obtain ⟨a, us, rfl, h1, r1⟩ := d3.lst g3
      refine .inl (.inl ⟨a, us, rfl, SqL.of h1, fun q hq => ?_⟩)
      exact k _ _ (upd G3 q (.lst (cutV us lo hi))) _ (f.trans (Fr.new g3 hq) (g3.new hq)) (g3.new hq) (.lst upd_same ((r1.cut lo hi).mono (same_new (g3.gn hq)))) p
    · cases d3.str
      exact .inl (.inr ⟨z, rfl, Nat.le_trans hz (by decide), k _ _ G3 H3 f g3 (.str _) p⟩)
    · obtain ⟨a, us, rfl, h1, r1⟩ := d3.tup
      refine .inr ⟨a, us, rfl, sqT_mono g3.sub h1, fun e => ?_, fun e q hq => ?_⟩
      · have z : cutD ds lo hi = ds := by
          unfold cutD
          rw [← r1.length, e.1, e.2, Nat.sub_zero, List.drop_zero, r1.length, List.take_length]
        rw [z] at p
        exact k _ _ G3 H3 f g3 (.tup h1 r1) p
      · exact k _ _ (upd G3 q (.tup (cutV us lo hi))) _ (f.trans (Fr.new g3 hq) (g3.new hq)) (g3.new hq) (.tup (.inl (.inl upd_same)) ((r1.cut lo hi).mono (same_new (g3.gn hq)))) p
    · rcases d3 with d3 | ⟨a, xs, ds, h1, h2, _⟩
      · cases d3 with
        | @scr a _ h1 =>
          refine .inl (.inl ⟨a, ns.map V.int, rfl, g3.sub.seq h1, fun q hq => ?_⟩)
          have ec : cutV (ns.map V.int) lo hi = (cutD ns lo hi).map V.int := by
            unfold cutV cutD
            rw [List.length_map, List.map_take, List.map_drop]
          rw [ec]
          exact k _ _ (upd G3 q (.lst ((cutD ns lo hi).map V.int))) _ (f.trans (Fr.new g3 hq) (g3.new hq)) (g3.new hq) (.lst upd_same (drall_ints _)) p
      · cases h2
theorem nl_sl {tl th : TO} {P : List Dt → Prop} (h : RD Γ te δ fun x => OdP Γ tl δ fun lo => OdP Γ th δ fun hi => ∃ ds, x = .lst ds ∧ P (cutD ds lo hi)) :
    NL Γ (tSl (rSlAny Γ.W.K) te tl th) δ P := fun G H σ Q at_ k =>
  h G H σ _ at_ fun v x G1 H1 f1 g1 d1 p1 => p1 G1 H1 σ _ (at_.step f1 g1) fun lo G2 H2 f2 g2 p2 => p2 G2 H2 σ _ ((at_.step f1 g1).step f2 g2) fun hi G3 H3 f3 g3 p3 => by
    have f := (f1.trans f2 g2).trans f3 g3
    have d3 := (d1.step f2).step f3
    obtain ⟨ds, rfl, p⟩ := p3
    obtain ⟨a, us, rfl, h1, r1⟩ := d3.lst g3
    refine .inl (.inl ⟨a, us, rfl, SqL.of h1, fun q hq => ?_⟩)
    exact k q _ _ G3 _ (f.trans (Fr.newM g3 hq) (g3.setM (g3.gn hq) (g3.nm hq))) (g3.setM (g3.gn hq) (g3.nm hq)) (fr_back f g3 hq) upd_same (g3.gn hq) (r1.cut lo hi) p
/-! calls of built-ins -/
variable {W : Wo}
theorem cd_of {rc : List V → Hp → VK → Prop} {ds : List Dt} {z : Dt} (h : ∀ G H vs (Q : VK), Good W G H → DvAll W G H vs ds → (∀ u, Dr W.K G u z → Q u H) → rc vs H Q) (p : P z) : CD W rc ds P := fun G H vs Q g hv k =>
  h G H vs Q g hv fun u r => k u z G H (Fr.refl _ _ _) g r p
theorem dv1 {G H : Hp} {vs : List V} {x : Dt} (h : DvAll W G H vs [x]) : ∃ v, vs = [v] ∧ Dv W G H v x := by
  cases h with
  | cons a b => cases b; exact ⟨_, rfl, a⟩
theorem dv2 {G H : Hp} {vs : List V} {x y : Dt} (h : DvAll W G H vs [x, y]) : ∃ v w, vs = [v, w] ∧ Dv W G H v x ∧ Dv W G H w y := by
  cases h with
  | cons a b =>
    obtain ⟨w, rfl, r⟩ := dv1 b
    exact ⟨_, w, rfl, a, r⟩
theorem drall_bl {K : PySem.W.Frag} {G : Hp} : ∀ {xs : List V} {bs : List Bool}, DrAll K G xs (bs.map Dt.bl) → xs = bs.map V.bl
  | _, [], h => by cases h; rfl
  | _, b :: bs, h => by
    cases h with
    | cons r t => cases r; rw [drall_bl t]; rfl
theorem drall_int {K : PySem.W.Frag} {G : Hp} : ∀ {xs : List V} {bs : List Int}, DrAll K G xs (bs.map Dt.int) → xs = bs.map V.int
  | _, [], h => by cases h; rfl
  | _, b :: bs, h => by
    cases h with
    | cons r t => cases r; rw [drall_int t]; rfl
theorem drall_str {K : PySem.W.Frag} {G : Hp} : ∀ {xs : List V} {bs : List Str}, DrAll K G xs (bs.map Dt.str) → xs = bs.map V.str
  | _, [], h => by cases h; rfl
  | _, b :: bs, h => by
    cases h with
    | cons r t => cases r; rw [drall_str t]; rfl
def rLen (K : PySem.W.Frag) : List V → Hp → VK → Prop := fun xs H Q => ∃ x n, xs = [x] ∧ LenV K x H n ∧ Q (.int n) H
theorem callLen {X : Cx} : CallR X (.builtin "len") (rLen X.K) := call_len
theorem cd_lenS {z : Str} (hz : z.length ≤ 100000) (p : P (.int (z.length : Nat))) : CD W (rLen W.K) [.str z] P := cd_of (fun G H vs Q g hv k => by
  obtain ⟨v, rfl, r⟩ := dv1 hv
  cases r.str
  exact ⟨_, _, rfl, ⟨Nat.le_trans hz (by decide), rfl⟩, k _ (.int _)⟩) p
theorem cd_lenL {xs : List Dt} (p : P (.int (xs.length : Nat))) : CD W (rLen W.K) [.lst xs] P := cd_of (fun G H vs Q g hv k => by
  obtain ⟨v, rfl, r⟩ := dv1 hv
  obtain ⟨a, us, rfl, h1, r1⟩ := r.lst g
  refine ⟨_, us.length, rfl, .inl ⟨us, SqL.of h1, rfl⟩, ?_⟩
  rw [r1.length]
  exact k _ (.int _)) p
theorem cd_lenT {xs : List Dt} (p : P (.int (xs.length : Nat))) : CD W (rLen W.K) [.tup xs] P := cd_of (fun G H vs Q g hv k => by
  obtain ⟨v, rfl, r⟩ := dv1 hv
  obtain ⟨a, us, rfl, h1, r1⟩ := r.tup
  refine ⟨_, us.length, rfl, .inr ⟨us, sqT_mono g.sub h1, rfl⟩, ?_⟩
  rw [r1.length]
  exact k _ (.int _)) p
theorem cd_lenScr {ns : List Int} (p : P (.int (ns.length : Nat))) : CD W (rLen W.K) [.scr ns] P := cd_of (fun G H vs Q g hv k => by
  obtain ⟨v, rfl, r⟩ := dv1 hv
  rcases r with r | ⟨a, xs, ds, h1, h2, _⟩
  · cases r with
    | scr h1 => exact ⟨_, ns.length, rfl, .inl ⟨_, g.sub.seq h1, by rw [List.length_map]⟩, k _ (.int _)⟩
  · cases h2) p
def rInt1 : List V → Hp → VK → Prop := fun xs H Q => (∃ i, xs = [.int i] ∧ Q (.int i) H) ∨ ∃ k, xs = [.bl k] ∧ Q (.int (if k then 1 else 0)) H
theorem callInt {X : Cx} : CallR X (.type "int") rInt1 := call_int1
theorem cd_int {i : Int} (p : P (.int i)) : CD W rInt1 [.int i] P := cd_of (fun G H vs Q g hv k => by
  obtain ⟨v, rfl, r⟩ := dv1 hv
  cases r.int
  exact .inl ⟨i, rfl, k _ (.int _)⟩) p
theorem cd_intB {b : Bool} (p : P (.int (if b then 1 else 0))) : CD W rInt1 [.bl b] P := cd_of (fun G H vs Q g hv k => by
  obtain ⟨v, rfl, r⟩ := dv1 hv
  cases r.bl
  exact .inr ⟨b, rfl, k _ (.int _)⟩) p
def rAbs : List V → Hp → VK → Prop := fun xs H Q => ∃ i, xs = [.int i] ∧ Q (.int (if i < 0 then -i else i)) H
theorem callAbs {X : Cx} : CallR X (.builtin "abs") rAbs := call_abs
theorem cd_abs {i : Int} (p : P (.int (if i < 0 then -i else i))) : CD W rAbs [.int i] P := cd_of (fun G H vs Q g hv k => by
  obtain ⟨v, rfl, r⟩ := dv1 hv
  cases r.int
  exact ⟨i, rfl, k _ (.int _)⟩) p
def rMax2 : List V → Hp → VK → Prop := fun xs H Q => ∃ i j, xs = [.int i, .int j] ∧ Q (.int (if j > i then j else i)) H
def rMin2 : List V → Hp → VK → Prop := fun xs H Q => ∃ i j, xs = [.int i, .int j] ∧ Q (.int (if j < i then j else i)) H
theorem callMax2 {X : Cx} (hc : X.calm = true) : CallR X (.builtin "max") rMax2 := call_max2 hc
theorem callMin2 {X : Cx} (hc : X.calm = true) : CallR X (.builtin "min") rMin2 := call_min2 hc
theorem cd_max2 {i j : Int} (p : P (.int (if j > i then j else i))) : CD W rMax2 [.int i, .int j] P := cd_of (fun G H vs Q g hv k => by
  obtain ⟨v, w, rfl, r, r2⟩ := dv2 hv
  cases r.int; cases r2.int
  exact ⟨i, j, rfl, k _ (.int _)⟩) p
theorem cd_min2 {i j : Int} (p : P (.int (if j < i then j else i))) : CD W rMin2 [.int i, .int j] P := cd_of (fun G H vs Q g hv k => by
  obtain ⟨v, w, rfl, r, r2⟩ := dv2 hv
  cases r.int; cases r2.int
  exact ⟨i, j, rfl, k _ (.int _)⟩) p
theorem cd_all {bs : List Bool} (p : P (.bl (bs.all id))) : CD W (rAll W.K) [.lst (bs.map Dt.bl)] P := cd_of (fun G H vs Q g hv k => by
  obtain ⟨v, rfl, r⟩ := dv1 hv
  obtain ⟨a, us, rfl, h1, r1⟩ := r.lst g
  have := drall_bl r1
  subst this
  exact ⟨a, bs, rfl, SqL.of h1, k _ (.bl _)⟩) p
theorem cd_any {bs : List Bool} (p : P (.bl (bs.any id))) : CD W (rAny W.K) [.lst (bs.map Dt.bl)] P := cd_of (fun G H vs Q g hv k => by
  obtain ⟨v, rfl, r⟩ := dv1 hv
  obtain ⟨a, us, rfl, h1, r1⟩ := r.lst g
  have := drall_bl r1
  subst this
  exact ⟨a, bs, rfl, SqL.of h1, k _ (.bl _)⟩) p
theorem cd_repr {x : Dt} {d : PyData} (hx : toPy x = some d) (h1 : d.showable = true) (h2 : d.hasDict = false) (h3 : d.depth ≤ 60) (h4 : d.shown.length ≤ 10000000) (p : P (.str d.shown)) : CD W (Pg.rRepr W.K) [x] P := cd_of (fun G H vs Q g hv k => by
  obtain ⟨v, rfl, r⟩ := dv1 hv
  exact ⟨v, d, rfl, (r.dr g).dp hx, h1, h2, h3, Nat.le_trans h4 (by decide), k _ (.str _)⟩) p
/-! isinstance -/
def tyD : Dt → Option String
  | .non => some "NoneType"
  | .bl _ => some "bool"
  | .int _ => some "int"
  | .str _ => some "str"
  | .tup _ => some "tuple"
  | .lst _ => some "list"
  | .dct _ => some "dict"
  | _ => none
theorem ty_of {G H : Hp} {v : V} {d : Dt} {T : String} (g : Good W G H) (h : Dv W G H v d) (e : tyD d = some T) : TyX W.K H v (.type T) := by
  have h := h.dr g
  cases h with
  | non => cases e; exact .base .non
  | bl b => cases e; exact .base (.bl b)
  | int i => cases e; exact .base (.int i)
  | str x => cases e; exact .base (.str x)
  | tup h1 h2 =>
    cases e
    rcases h1 with (h1 | ⟨o, h1⟩) | ⟨o, its, n, h1, h2, h3⟩
    · exact .base (.tup h1)
    · exact .fTuple h1
    · exact .kTuple h1 h2
  | lst h1 h2 => cases e; exact .base (.lst h1)
  | scr h1 => cases e
  | dct h1 => cases e; exact .base (.dK h1)
  | raw v => cases e
  | obj h1 h2 h3 => cases e
theorem cd_isi {x : Dt} {t T : String} {b : Bool} (ht : tyD x = some t) (hk : kitB t T = some b) (p : P (.bl b)) : CD W (rIsi W.K) [x, .raw (.ty T)] P := cd_of (fun G H vs Q g hv k => by
  obtain ⟨v, w, rfl, r, r2⟩ := dv2 hv
  cases r2.raw
  exact ⟨v, .ty T, .type t, .type T, b, rfl, .ty T, ty_of g r ht, kit_ty hk, k _ (.bl _)⟩) p
/-! texts -/
theorem ed_join (h : ED Γ ta δ fun x => ∃ a, x = .str a ∧ RD Γ tb δ fun y => ∃ ys : List Str, y = .lst (ys.map Dt.str) ∧ (ys.map (·.length)).sum + ys.length * a.length ≤ 1000000 ∧ P (.str (Txt.join a ys))) :
    ED Γ (tM1 (fun x xs H Q => ∃ a p, ∃ ys : List Str, x = .str a ∧ xs = [.ref p] ∧ (SqL Γ.W.K H p (ys.map V.str) ∨ SqT Γ.W.K H p (ys.map V.str)) ∧ (ys.map (·.length)).sum + ys.length * a.length ≤ 16777216 ∧ Q (.str (Txt.join a ys)) H) ta tb) δ P := fun G H σ Q at_ k =>
  h G H σ _ at_ fun v x G1 H1 f1 g1 d1 ⟨a, e, p1⟩ => by
    subst e
    cases d1
    refine ⟨⟨a, rfl⟩, p1 G1 H1 σ _ (at_.step f1 g1) fun w y G2 H2 f2 g2 d2 ⟨ys, e, hz, p⟩ => ?_⟩
    subst e
    obtain ⟨l, us, rfl, h1, r1⟩ := d2.lst g2
    have := drall_str r1
    subst this
    exact ⟨a, l, ys, rfl, rfl, .inl (SqL.of h1), Nat.le_trans hz (by decide), k _ _ G2 H2 (f1.trans f2 g2) g2 (.str _) p⟩
end
end Pd

set_option Elab.async false
set_option linter.all false
set_option maxRecDepth 100000
set_option maxHeartbeats 2000000
namespace Pd
open PySem PySem.Spec PyProof.Rows L2
theorem _root_.L2.Room.units65 {k : Nat} {A : Around} (r : Room k A) : A.units + 65 < cLine := by
  have := r.un
  omega
/-- a def of the module, by its name, with its promise -/
structure Cl (P : Program) (w : World) (K : PySem.W.Frag) (mg : Str → Option Value) (base : Heap) (k : Nat) (x : Str) (sp : Sp) : Prop where
  ex : ∃ (f : Addr) (fd : FuncData) (ps : List Str), FnOk P w K mg base L2.CX0 k f fd ps sp ∧ mg x = some (.ref f) ∧ PySem.W.keepIn K (.ref f) = true ∧ Binds K fd ps []
structure ClG (P : Program) (w : World) (K : PySem.W.Frag) (mg : Str → Option Value) (base : Heap) (k : Nat) (x : Str) (sp : Sp) : Prop where
  ex : ∃ (f : Addr) (fd : FuncData) (ps : List Str), Pg.FnG P w K mg base k f fd ps sp ∧ mg x = some (.ref f) ∧ PySem.W.keepIn K (.ref f) = true ∧ Binds K fd ps []
/-- .. called with all its parameters by their names, in their order -/
structure ClK (P : Program) (w : World) (K : PySem.W.Frag) (mg : Str → Option Value) (base : Heap) (k : Nat) (x : Str) (ps : List Str) (sp : Sp) : Prop where
  ex : ∃ (f : Addr) (fd : FuncData), FnOk P w K mg base L2.CX0 k f fd ps sp ∧ mg x = some (.ref f) ∧ PySem.W.keepIn K (.ref f) = true ∧ ∀ (s : Shared) (us : List Value), us.length = ps.length → BindsTo s fd ⟨[], ps.zip us⟩ (ps.zip us)
section
variable {X : Cx} {j k : Nat} {x : Str} {sp : Sp} {p pos : Pos} {e : Expr} {es : List Expr} {t tk : TA} {kws : List Keyword} {ps : List Str}
theorem pe_cl (c : Cl X.prog X.w X.K X.mg X.base k x sp) (hr : Room j X.A) (hk : k ≤ j) (hg : Gl X x) (ha : PA X (e :: es) t) (hdb : (x == ("__debug__" : Str)) = false := by decide)
    (he : starEach (e :: es) X.env = (false, eval e X.env) :: starEach es X.env := by rfl) (hpl : (backTo pos (starEach es X.env)).any (·.1) = false := by rfl) : PE X (.Call (.Name x p) (e :: es) [] pos) (tCall sp [] L2.E0 t) := by
  obtain ⟨f, fd, ps, F, h1, h2, h3⟩ := c.ex
  exact pe_call F (hr.mono hk) hg h1 h2 h3 .nil L2.pass0 ha hdb he hpl
theorem pe_clG (c : ClG X.prog X.w X.K X.mg X.base k x sp) (hgd : X.A.guards = some []) (hr : Room j X.A) (hk : k ≤ j) (hg : Gl X x) (ha : PA X (e :: es) t) (hdb : (x == ("__debug__" : Str)) = false := by decide)
    (he : starEach (e :: es) X.env = (false, eval e X.env) :: starEach es X.env := by rfl) (hpl : (backTo pos (starEach es X.env)).any (·.1) = false := by rfl) : PE X (.Call (.Name x p) (e :: es) [] pos) (tCall sp [] L2.E0 t) := by
  obtain ⟨f, fd, ps, F, h1, h2, h3⟩ := c.ex
  exact Pg.peG_call F hgd (hr.mono hk) hg h1 h2 h3 ha hdb he hpl
theorem pe_cl0 (c : Cl X.prog X.w X.K X.mg X.base k x sp) (hr : Room j X.A) (hk : k ≤ j) (hg : Gl X x) (hdb : (x == ("__debug__" : Str)) = false := by decide) : PE X (.Call (.Name x p) [] [] pos) (tCall sp [] L2.E0 tNil) := by
  obtain ⟨f, fd, ps, F, h1, h2, h3⟩ := c.ex
  exact pe_call0 F (hr.mono hk) hg h1 h2 h3 .nil L2.pass0 hdb
theorem pe_clK (c : ClK X.prog X.w X.K X.mg X.base k x ps sp) (hr : Room j X.A) (hk : k ≤ j) (hg : Gl X x) (hkw : PK X kws tk) (hall : (backToKw pos (keywordEach kws X.env)).all (·.1.isSome) = true := by rfl)
    (hks : (backToKw pos (keywordEach kws X.env)).filterMap (·.1) = ps := by rfl) (hdb : (x == ("__debug__" : Str)) = false := by decide)
    (hpl : ((backTo pos (starEach [] X.env)).any (·.1) || (backToKw pos (keywordEach kws X.env)).any (·.1.isNone)) = false := by rfl) : PE X (.Call (.Name x p) [] kws pos) (tCall sp [] L2.E0 tk) := by
  obtain ⟨f, fd, F, h1, h2, h3⟩ := c.ex
  constructor
  intro pins s σ H Q I h
  refine wpAny_Call_Name_kw (ld_glob I hg h1 ?_ hdb)
  refine PySem.W.callWith_KW0 (h₀ := X.base) I.ok.mod.kin h2 hall ?_ hpl
  refine thn (hkw.run pos pins s σ H _ I h) ?_
  intro ws s2 hh
  obtain ⟨zs, H2, I2, rz, q2⟩ := hh
  refine ⟨I2.kIn, ?_⟩
  rw [hks]
  have q' : sp zs H2 Q L2.E0 := by
    have z : sp (zs ++ []) H2 Q L2.E0 := q2
    rw [List.append_nil] at z
    exact z
  have hl : ws.length = ps.length := by rw [← rz.length]; exact F.len _ _ _ _ q'
  refine wpAny_call (codeAny_mono (F.run X.A X.stack s2 H2 ⟨[], ps.zip ws⟩ ws zs Q L2.E0 (hr.mono hk) I2.env0 (h3 s2 ws hl) rz q') ?_)
  intro rr s' hq
  match rr, hq with
  | .error _, hq => exact False.elim hq
  | .ok (.ret _), hq => exact I2.after hq
  | .ok .next, hq => exact False.elim hq
  | .ok .brk, hq => exact False.elim hq
  | .ok .cont, hq => exact False.elim hq
/-- a constant of the module -/
theorem pe_gc {v : V} (hg : Gl X x) (h : ∃ u, X.mg x = some u ∧ RelV v u) (hdb : (x == ("__debug__" : Str)) = false := by decide) : PE X (.Name x pos) (tC v) := by
  obtain ⟨u, h1, h2⟩ := h
  exact pe_glob hg h1 h2 hdb
end
section
variable {Γ : Cn} {δ : List Sl} {te ta tb tc : TE} {P : Dt → Prop} {W : Wo}
theorem ed_dnew (p : P (.dct [])) : ED Γ tDNewK δ P := fun G H σ Q at_ k q hq => k _ _ (upd G q (.dK [])) _ (Fr.new at_.gd hq) (at_.gd.new hq) (.dct upd_same) p
theorem nl_addL {P : List Dt → Prop} (h : RD Γ ta δ fun x => RD Γ tb δ fun y => ∃ xs ys, x = .lst xs ∧ y = .lst ys ∧ xs.length + ys.length ≤ 100000 ∧ P (xs ++ ys)) : NL Γ (tOp (rAddA Γ.W.K) ta tb) δ P := fun G H σ Q at_ k =>
  h G H σ _ at_ fun v x G1 H1 f1 g1 d1 p1 => p1 G1 H1 σ _ (at_.step f1 g1) fun w y G2 H2 f2 g2 d2 ⟨xs, ys, e1, e2, hl, p⟩ => by
    subst e1 e2
    have f := f1.trans f2 g2
    obtain ⟨a, us, rfl, h1, r1⟩ := (d1.step f2).lst g2
    obtain ⟨b, ws, rfl, h2, r2⟩ := d2.lst g2
    refine .inr (.inl ⟨a, b, us, ws, rfl, rfl, h1, h2, by rw [r1.length, r2.length]; exact Nat.le_trans hl (by decide), fun q hq => ?_⟩)
    exact k q _ _ G2 _ (f.trans (Fr.newM g2 hq) (g2.setM (g2.gn hq) (g2.nm hq))) (g2.setM (g2.gn hq) (g2.nm hq)) (fr_back f g2 hq) upd_same (g2.gn hq) (r1.append r2) p
/-- {k: n}, k a text -/
theorem ed_disp1 {n : Int} (h : ED Γ ta δ fun d => ∃ x, d = .str x ∧ P (.dct [(.inr x, .int n)])) : ED Γ (tDisp [(ta, tC (.int n))]) δ P := fun G H σ Q at_ k q hq => by
  have gd := at_.gd
  have f0 : Fr Γ.W G H G (upd H q (.dK [])) := Fr.newM gd hq
  have g0 : Good Γ.W G (upd H q (.dK [])) := gd.setM (gd.gn hq) (gd.nm hq)
  refine h G _ σ _ (at_.step f0 g0) fun v d G1 H1 f1 g1 r ⟨x, e, p⟩ => ?_
  subst e
  cases r
  have w := f1.o q _ upd_same (gd.gn hq)
  refine ⟨w.2 (gd.nm hq), [(.inr x, .int n)], rfl, (by show 1 ≤ 15; decide), ?_⟩
  have f01 := f0.trans f1 g1
  have m : mergeK [] [((.inr x : Key), V.int n)] = [(.inr x, V.int n)] := rfl
  rw [m]
  refine k _ _ (upd G1 q (.dK [(.inr x, .int n)])) _ ⟨f01.g.trans (same_new w.1), fun b u e gb => ?_⟩ ⟨same_upd2 g1.sub w.1, fun b e => ?_⟩ (.dct upd_same) p
  · have hb : b ≠ q := ne_of_none e hq
    rw [upd_ne hb, upd_ne hb]
    exact f01.o b u e gb
  · obtain ⟨k1, u, k2, k3⟩ := g1.st b e
    have hb : b ≠ q := fun z => gd.nm hq (z ▸ e)
    rw [upd_ne hb, upd_ne hb]
    exact ⟨k1, u, k2, k3⟩
theorem sd_par3 {i j l : Nat} {D : De} (h : ED Γ ta δ fun s => ED Γ tb δ fun t => ED Γ tc δ fun u => D.nx (((δ.set i (.dat s)).set j (.dat t)).set l (.dat u))) : SD Γ (tPar3 i j l (tCons ta (tCons tb (tCons tc tNil)))) δ D := fun G H σ E at_ hn hr hb hc =>
  h G H σ _ at_ fun v s G1 H1 f1 g1 r1 p1 => p1 G1 H1 σ _ (at_.step f1 g1) fun w t G2 H2 f2 g2 r2 p2 => p2 G2 H2 σ _ ((at_.step f1 g1).step f2 g2) fun x u G3 H3 f3 g3 r3 p3 =>
    ⟨v, w, x, rfl, hn _ G3 H3 _ ((f1.g.trans f2.g).trans f3.g) ⟨(((at_.step f1 g1).step f2 g2).step f3 g3).fr, g3, (((((at_.step f1 g1).step f2 g2).step f3 g3).env.set ((r1.mono f2.g).mono f3.g)).set (r2.mono f3.g)).set r3⟩ p3⟩
theorem sd_parD {i j : Nat} {D : De} (h : ED Γ ta δ fun s => ED Γ tb δ fun t => D.nx ((δ.set i (.dat s)).set j (.dat t))) : SD Γ (tPar i j (tCons ta (tCons tb tNil))) δ D := fun G H σ E at_ hn hr hb hc =>
  h G H σ _ at_ fun v s G1 H1 f1 g1 r1 p1 => p1 G1 H1 σ _ (at_.step f1 g1) fun w t G2 H2 f2 g2 r2 p2 =>
    ⟨v, w, rfl, hn _ G2 H2 _ (f1.g.trans f2.g) ⟨((at_.step f1 g1).step f2 g2).fr, g2, (((at_.step f1 g1).step f2 g2).env.set (r1.mono f2.g)).set r2⟩ p2⟩
/-- targets of several names -/
theorem sd_asgG {g : TG} {js : List Nat} {D : De} (h : ED Γ te δ fun d => GD Γ g js δ d D.nx) : SD Γ (tAsg te g) δ D := fun G H σ E at_ hn hr hb hc =>
  h G H σ _ at_ fun v d G1 H1 f1 g1 r p => p G1 H1 σ v _ (at_.step f1 g1) r fun δ' σ' a _ q => hn δ' G1 H1 σ' f1.g a q
/-- xs[::-1] -/
theorem ed_rev (h : RD Γ te δ fun x => ∃ ds, x = .lst ds ∧ P (.lst ds.reverse)) : ED Γ (tRevL Γ.W.K te) δ P := fun G H σ Q at_ k =>
  h G H σ _ at_ fun v x G1 H1 f1 g1 d1 ⟨ds, e, p⟩ => by
    subst e
    obtain ⟨a, us, rfl, h1, r1⟩ := d1.lst g1
    refine ⟨a, us, rfl, SqL.of h1, fun q hq => ?_⟩
    exact k _ _ (upd G1 q (.lst us.reverse)) _ (f1.trans (Fr.new g1 hq) (g1.new hq)) (g1.new hq) (.lst upd_same (r1.reverse.mono (same_new (g1.gn hq)))) p
end
/-! ### the written part by its own letter -/
section
variable {X : Cx} {K : PySem.W.Frag}
theorem _root_.L2.OpR.wk {f : Value → Value → Sem Value} {r : PySem.W.Frag → R2} (h : OpR X f (r X.K)) (e : X.K = K) : OpR X f (r K) := e ▸ h
theorem _root_.L2.CallR.wk {f : Value} {r : PySem.W.Frag → List V → Hp → VK → Prop} (h : CallR X f (r X.K)) (e : X.K = K) : CallR X f (r K) := e ▸ h
theorem _root_.L2.IxR.wk {r : PySem.W.Frag → R2} (h : L2.IxR X (r X.K)) (e : X.K = K) : L2.IxR X (r K) := e ▸ h
theorem slAnyK (e : X.K = K) : L2.SlR X (rSlAny K) := e ▸ slAny
theorem pi_listK {tg l : Expr} {tl : TE} (hl : PE X l tl) (e : X.K = K) : PI X tg l (iList K tl) := e ▸ pi_list hl
theorem pi_tupK {tg l : Expr} {tl : TE} (hl : PE X l tl) (e : X.K = K) : PI X tg l (iTup K tl) := e ▸ pi_tup hl
theorem pg_tupK {es : List Expr} {k : Nat} {t : TGs} {n : Nat} {pos : Pos} (hc : X.calm = true) (h : PGs X es t) (e : X.K = K)
    (hn : (assignEach es X.env).length = n := by rfl) (hst : (assignEach es X.env).findIdx? (·.1) = none := by rfl) : PG X (.Tuple es k pos) (gTup K n t) := e ▸ pg_tup hc h hn hst
end
end Pd

set_option Elab.async false
set_option linter.all false
set_option maxRecDepth 100000
set_option maxHeartbeats 2000000
namespace Pd
open PySem PySem.Spec PyProof.Rows L2
/-! ### the stock that draws change: some ints, each with its bounds -/
def SJ (C : Nat → Int → Prop) (n : Nat) : HO → Prop := fun o => ∃ ns : List Int, ns.length = n ∧ o = .lst (ns.map V.int) ∧ ∀ (i : Nat) (x : Int), ns[i]? = some x → C i x
section
variable {Γ : Cn} {δ : List Sl} {te : TE} {P : Dt → Prop} {C : Nat → Int → Prop} {n i j : Nat} {a : Addr} {z : Int} {D : De}
theorem ed_stk (hd : δ[i]? = some (.dat (.raw (.ref a)))) (hM : Γ.W.M = some a) (hJ : Γ.W.J = SJ C n) (hz : z = (j : Int)) (hj : j < n) (p : ∀ x, C j x → P (.int x)) : ED Γ (tOp (rIx Γ.W.K) (tVar i) (tC (.int z))) δ P := fun G H σ Q at_ k => by
  obtain ⟨v, h1, h2⟩ := at_.env.dat i _ hd
  cases h2
  obtain ⟨hg, o, ho, hJo⟩ := at_.gd.st a hM
  rw [hJ] at hJo
  obtain ⟨ns, hl, rfl, hC⟩ := hJo
  obtain ⟨x, hx⟩ : ∃ x, ns[j]? = some x := ⟨ns[j]'(by omega), List.getElem?_eq_getElem (by omega)⟩
  refine ⟨.ref a, h1, .inl ⟨a, _, z, .int x, rfl, rfl, SqL.of ho, ?_, k _ _ G H (Fr.refl _ _ _) at_.gd (.int x) (p x (hC j x hx))⟩⟩
  rw [hz]
  exact atI_nat (by rw [List.getElem?_map, hx]; rfl)
theorem sd_stk (hd : δ[i]? = some (.dat (.raw (.ref a)))) (hM : Γ.W.M = some a) (hJ : Γ.W.J = SJ C n) (hz : z = (j : Int)) (hj : j < n) (h : ED Γ te δ fun d => ∃ x, d = .int x ∧ C j x ∧ D.nx δ) : SD Γ (tAsg te (gSub (tVar i) (tC (.int z)) rSetL)) δ D := fun G H σ E at_ hn hr hb hc =>
  h G H σ _ at_ fun v d G1 H1 f1 g1 r ⟨x, e, cx, p⟩ => by
    subst e
    cases r
    have at1 := at_.step f1 g1
    obtain ⟨w, h1, h2⟩ := at1.env.dat i _ hd
    cases h2
    obtain ⟨hg, o, ho, hJo⟩ := at1.gd.st a hM
    have hJo' := hJo
    rw [hJ] at hJo'
    obtain ⟨ns, hl, rfl, hC⟩ := hJo'
    refine ⟨.ref a, h1, a, ns.map V.int, z, j, rfl, rfl, ho, ?_, ?_⟩
    · rw [hz, List.length_map, hl]
      exact Evl.ixN_nat hj
    · have es : (ns.map V.int).set j (.int x) = (ns.set j x).map V.int := by rw [List.map_set]
      rw [es]
      refine hn δ G1 _ σ f1.g ⟨⟨at1.fr.g, fun b u e gb => ?_⟩, ⟨fun b u e => ?_, fun b e => ?_⟩, ?_⟩ p
      · obtain ⟨k1, k2⟩ := at1.fr.o b u e gb
        refine ⟨k1, fun hm => ?_⟩
        have hb : b ≠ a := fun q => hm (q ▸ hM)
        rw [upd_ne hb]
        exact k2 hm
      · have hb : b ≠ a := ne_of_none e hg
        rw [upd_ne hb]
        exact at1.gd.sub b u e
      · rw [hM] at e
        cases e
        refine ⟨hg, _, upd_same, ?_⟩
        rw [hJ]
        refine ⟨ns.set j x, by rw [List.length_set]; exact hl, rfl, fun i' y hy => ?_⟩
        rw [set_get] at hy
        by_cases q : j = i'
        · rw [if_pos q] at hy
          split at hy
          · cases hy
            exact q ▸ cx
          · cases hy
        · rw [if_neg q] at hy
          exact hC i' y hy
      · exact {
          len := at1.env.len
          dat := at1.env.dat
          mu := fun j' ds hj' => by
            obtain ⟨b, ys, k1, k2, k3, k4, k5, k6⟩ := at1.env.mu j' ds hj'
            have hb : b ≠ a := fun q => k5 (q ▸ hM)
            exact ⟨b, ys, k1, by rw [upd_ne hb]; exact k2, k3, k4, k5, k6⟩
          slf := fun j' Cc fds hj' => by
            obtain ⟨b, dx, ys, k1, k2, k3, k4, k5, k6, k7, k8, k9, k10⟩ := at1.env.slf j' Cc fds hj'
            have hb : b ≠ a := fun q => k8 (q ▸ hM)
            have hb2 : dx ≠ a := fun q => k9 (q ▸ hM)
            exact ⟨b, dx, ys, k1, by rw [upd_ne hb]; exact k2, by rw [upd_ne hb2]; exact k3, k4, k5, k6, k7, k8, k9, k10⟩
          sep := at1.env.sep }
end

/-! ### comprehensions without a test -/
section
variable {Γ : Cn} {δ : List Sl} {te : TE} {wi : TI} {g : TG} {vs js : List Nat}
/-- every element is as R says -/
theorem nl_lcP {P : List Dt → Prop} (hj : ∀ j ∈ js, j ∈ vs) (h : WD Γ wi δ fun ds => ds.length ≤ 100000 ∧ ∃ R : Dt → Prop, (∀ (i : Nat) x, ds[i]? = some x → GD Γ g js (wipeD δ vs) x fun δ2 => ED Γ te δ2 R) ∧ (∀ es : List Dt, es.length = ds.length → (∀ y ∈ es, R y) → P es)) :
    NL Γ (tLc wi g tYes te vs) δ P := nl_lc hj fun G H σ Q at_ k => h G H σ Q at_ fun J ds G' H' f gd w ⟨hl, R, h1, h2⟩ => k J ds G' H' f gd w ⟨hl, fun i acc => acc.length = i ∧ ∀ y ∈ acc, R y, ⟨rfl, fun y hy => absurd hy List.not_mem_nil⟩, fun i x acc hx ⟨ha, hR⟩ => by
      intro G2 H2 σ2 v Q2 at2 r2 k2
      refine h1 i x hx G2 H2 σ2 v Q2 at2 r2 fun δ' σ' a' hw q => k2 δ' σ' a' hw ?_
      refine td_yes ⟨fun _ => ?_, fun z => by cases z⟩
      intro G3 H3 σ3 Q3 at3 k3
      exact q G3 H3 σ3 Q3 at3 fun v d G4 H4 f4 g4 r4 p4 => k3 v d G4 H4 f4 g4 r4 ⟨by rw [List.length_append, ha]; rfl, fun y hy => by
        rcases List.mem_append.mp hy with hy | hy
        · exact hR y hy
        · rw [List.mem_singleton.mp hy]; exact p4⟩, fun acc ⟨ha, hR⟩ => h2 acc ha hR⟩
/-- the elements are a function of what is walked -/
theorem nl_lcMap {α : Type} {P : List Dt → Prop} (hj : ∀ j ∈ js, j ∈ vs) (h : WD Γ wi δ fun ds => ds.length ≤ 100000 ∧ ∃ (cs : List α) (g0 h0 : α → Dt), ds = cs.map g0 ∧ (∀ c ∈ cs, GD Γ g js (wipeD δ vs) (g0 c) fun δ2 => ED Γ te δ2 fun y => y = h0 c) ∧ P (cs.map h0)) :
    NL Γ (tLc wi g tYes te vs) δ P := nl_lc hj fun G H σ Q at_ k => h G H σ Q at_ fun J ds G' H' f gd w ⟨hl, cs, g0, h0, e, h1, h2⟩ => k J ds G' H' f gd w ⟨hl, fun i acc => acc = (cs.take i).map h0, rfl, fun i x acc hx ha => by
      subst e
      rw [List.getElem?_map] at hx
      cases hc : cs[i]? with
      | none => rw [hc] at hx; cases hx
      | some c =>
        rw [hc] at hx
        cases hx
        intro G2 H2 σ2 v Q2 at2 r2 k2
        refine h1 c (List.mem_of_getElem? hc) G2 H2 σ2 v Q2 at2 r2 fun δ' σ' a' hw q => k2 δ' σ' a' hw ?_
        refine td_yes ⟨fun _ => ?_, fun z => by cases z⟩
        intro G3 H3 σ3 Q3 at3 k3
        refine q G3 H3 σ3 Q3 at3 fun v d G4 H4 f4 g4 r4 p4 => k3 v d G4 H4 f4 g4 r4 ?_
        show acc ++ [d] = (cs.take (i + 1)).map h0
        rw [List.take_add_one, hc, List.map_append, ha, show d = h0 c from p4]
        rfl, fun acc ha => by
      subst e
      have ha' : acc = (cs.take (cs.map g0).length).map h0 := ha
      rw [List.length_map, List.take_length] at ha'
      rw [ha']
      exact h2⟩
end
/-- a def whose last statement gives back a new list -/
theorem body_ofN {K : PySem.W.Frag} {n : Nat} {Pre : Wo → List Dt → Prop} {R : List Dt → List Dt → Prop} {N : List Str} {t1 : TS} {te : TE} {vs : List V} {H : Hp} {Q : VK} {E : XK}
    (h : ∀ (Γ : Cn) ds, Γ.W.K = K → ds.length = n → Pre Γ.W ds → SD Γ t1 (slots N.length ds) { nx := fun δ' => NL Γ te δ' (R ds), rt := fun _ => False }) (hs : spN K n Pre R vs H Q E) : tSeq t1 (tRet te) { nx := fun _ H' => Q .non H', rt := Q } (L2.start N vs) H := by
  obtain ⟨hl, W, ds, G, rfl, g, r, p, k⟩ := hs
  refine h (cn0 W G H) ds rfl (r.length.symm.trans hl) p G H (L2.start N vs) _ (at_start g r) ?_ ?_ ?_ ?_
  · intro δ' G' H' σ' e a q
    refine q G' H' σ' _ a fun b xs es G2 H2 f2 g2 hb h1 h2 r2 p2 => ?_
    exact k b xs es G2 H2 (a.fr.trans f2 g2) g2 (a.h0 hb) h1 h2 r2 p2
  · intro v d G' H' f g' rr q
    exact q.elim
  · intro δ' G' H' σ' e a q
    exact q.elim
  · intro δ' G' H' σ' e a q
    exact q.elim
section
variable {W : Wo} {P : Dt → Prop} {i : Int} {j : Nat}
theorem od_ixLi {xs : List Dt} {d : Dt} (hi : i = (j : Int)) (h : xs[j]? = some d) (p : P d) : OD W (rIx W.K) (.lst xs) (.int i) P := by subst hi; exact od_ixL h p
theorem od_ixTi {xs : List Dt} {d : Dt} (hi : i = (j : Int)) (h : xs[j]? = some d) (p : P d) : OD W (rIx W.K) (.tup xs) (.int i) P := by subst hi; exact od_ixT h p
theorem od_ixSi {z : Str} {c : Nat} (hi : i = (j : Int)) (hz : z.length ≤ 100000) (h : z.cps.toList[j]? = some c) (p : P (.str ⟨#[c]⟩)) : OD W (rIx W.K) (.str z) (.int i) P := by subst hi; exact od_ixS hz h p
end
theorem ED.imp {Γ : Cn} {δ : List Sl} {te : TE} {P P' : Dt → Prop} (h : ED Γ te δ P) (k : ∀ d, P d → P' d) : ED Γ te δ P' := fun G H σ Q at_ q => h G H σ Q at_ fun v d G' H' f g r p => q v d G' H' f g r (k d p)
theorem join_len {sep : Str} {ys : List Str} : (Txt.join sep ys).length ≤ (ys.map (·.length)).sum + ys.length * sep.length := by
  rw [TL.join_eq]
  exact StrLaws.join_length_le sep ys
/-- texts of one sign each -/
theorem signs_all {es : List Dt} (h : ∀ y ∈ es, ∃ c : Nat, y = .str ⟨#[c]⟩) : ∃ ys : List Str, es = ys.map Dt.str ∧ ∀ y ∈ ys, y.length = 1 := by
  induction es with
  | nil => exact ⟨[], rfl, fun y hy => absurd hy List.not_mem_nil⟩
  | cons d es ih =>
    obtain ⟨c, hc⟩ := h d List.mem_cons_self
    obtain ⟨ys, e, hy⟩ := ih fun y hy => h y (List.mem_cons_of_mem _ hy)
    refine ⟨⟨#[c]⟩ :: ys, by rw [hc, e]; rfl, fun y hy' => ?_⟩
    rcases List.mem_cons.mp hy' with rfl | hy'
    · rfl
    · exact hy y hy'
theorem sum_ones : ∀ {ys : List Str}, (∀ y ∈ ys, y.length = 1) → (ys.map (·.length)).sum = ys.length
  | [], _ => rfl
  | y :: ys, h => by
    rw [List.map_cons, List.sum_cons, sum_ones fun z hz => h z (List.mem_cons_of_mem _ hz), h y List.mem_cons_self, List.length_cons]
    omega
/-- as sd_enter, the new context a letter -/
theorem sd_world {Γ : Cn} {δ : List Sl} {i : Nat} {ds : List Dt} {ts : TS} {D : De} (J : HO → Prop) (hm : Γ.W.M = none) (hi : δ[i]? = some (.mu ds)) (hj : ∀ G xs, DrAll Γ.W.K G xs ds → J (.lst xs))
    (h : ∀ (Γ' : Cn) (a : Addr), Γ'.W.K = Γ.W.K → Γ'.W.M = some a → Γ'.W.J = J → SD Γ' ts (δ.set i (.dat (.raw (.ref a)))) D) : SD Γ ts δ D :=
  sd_enter J hm hi hj fun a h0 => h (Γ.enter a J hm h0) a rfl rfl rfl
theorem ed_neg {Γ : Cn} {δ : List Sl} {ta : TE} {P : Dt → Prop} (h : ED Γ ta δ fun d => ∃ i, d = .int i ∧ P (.int (-i))) : ED Γ (tUn (rU fun i => .int (-i)) ta) δ P := fun G H σ Q at_ k =>
  h G H σ _ at_ fun v d G1 H1 f1 g1 r ⟨i, e, p⟩ => by
    subst e
    cases r
    exact ⟨i, rfl, k _ _ G1 H1 f1 g1 (.int _) p⟩
theorem od_repI {W : Wo} {P : Dt → Prop} {xs : List Dt} {i : Int} {n : Nat} (hi : i = (n : Int)) (hl : xs.length * n ≤ 100000) (hn : n ≤ 100000) (p : P (.lst (List.replicate n xs).flatten)) : OD W rMulA (.lst xs) (.int i) P := by
  subst hi
  exact od_rep hl hn p
theorem shaped_int (i : Int) : SeqAt.shaped (.int i) = true := by simp [SeqAt.shaped, PyData.canLay0, PyData.depth]
end Pd

set_option Elab.async false
set_option linter.all false
set_option maxRecDepth 100000
set_option maxHeartbeats 2000000
/-! ### enumerate(tuple) -/
namespace PySem
open Sem (wp)
set_option maxHeartbeats 1000000 in
theorem meets_enumerate_newB1 {v : Value} {o : Obj} {H : Heap → Prop} (B : Begins v o H) :
    Meets (Builtin.«enumerate.__new__» ⟨[.type "enumerate", v], []⟩) (fun _ R s => H s.heap ∧
      R (.ok (.ret (.ref (s.heap.push o).objs.size))) { s with heap := (s.heap.push o).push { cls := .type "enumerate", data := .fields #[.none, .bool false, .ref s.heap.objs.size, rawInt 0, .none, .none] } }) :=
  .of_wp fun prog w A R s h => by
    obtain ⟨hp, g, d, tk, os⟩ := s; obtain ⟨h1, h⟩ := h
    have hsub := sub_enumerate
    have q1 : ∀ {A' : Around} {E : Value → Shared → Prop} {Q : Value → Shared → Prop}, Q (.ref hp.objs.size) ⟨hp.push o, g, d, tk, os⟩ → wpAny (model prog w) A' (pyIter v) Q E ⟨hp, g, d, tk, os⟩ :=
      fun q => B.iter prog w _ _ ⟨hp, g, d, tk, os⟩ _ h1 q
    wp_walk using q1
    refine wpAny_stack_any fun st => wpAny_pure ?_
    split
    · rename_i c _ _ _ _ _
      cases (c == Value.type "enumerate")
      · wp_walk using q1
        exact ⟨_, rfl, h⟩
      · wp_walk using q1
        exact ⟨_, rfl, h⟩
    · wp_walk using q1
      exact ⟨_, rfl, h⟩
theorem enum_begins1 {prog : Program} {w : World} {A : Around} {E : Value → Shared → Prop} {s : Shared} {v : Value} {o : Obj} {H : Heap → Prop} {Q : Value → Shared → Prop} (B : Begins v o H) (h1 : H s.heap)
    (h : ∀ h', IsEnum h' (s.heap.objs.size + 1) s.heap.objs.size 0 .none → h'.get? s.heap.objs.size = some o → h'.objs.size = s.heap.objs.size + 2 →
      (∀ b o, s.heap.get? b = some o → h'.get? b = some o) → Q (.ref (s.heap.objs.size + 1)) { s with heap := h' }) :
    wpAny (model prog w) A (call (.type "enumerate") [v]) Q E s := by
  refine callType_new F.called_enumerate (by decide) (F.typeCall_enumerate_1 _) (F.newCall_enumerate_1 _) (fun obj => F.args_object_init_2 obj _) F.entry_enumerate_new
    (meets_enumerate_newB1 B) ⟨h1, ?_⟩
  have hz : (s.heap.push o).objs.size = s.heap.objs.size + 1 := Heap.size_push ..
  show _ ∧ _
  rw [hz]
  have he : IsEnum ((s.heap.push o).push { cls := .type "enumerate", data := .fields #[.none, .bool false, .ref s.heap.objs.size, rawInt 0, .none, .none] }) (s.heap.objs.size + 1) s.heap.objs.size 0 .none := by
    have := Heap.get?_push_size (s.heap.push o) (o := { cls := .type "enumerate", data := .fields #[.none, .bool false, .ref s.heap.objs.size, rawInt 0, .none, .none] }) rfl
    rw [hz] at this; exact this
  refine ⟨⟨_, he, rfl⟩, h _ he (Heap.get?_push_of_some _ (Heap.get?_push_size _ B.free)) (by rw [Heap.size_push, hz]) fun b o x => Heap.get?_push_of_some _ (Heap.get?_push_of_some _ x)⟩
end PySem
namespace Pd
open PySem PySem.Spec PyProof.Rows L2
def IteT (K : PySem.W.Frag) (a : Addr) : It :=
  ⟨fun i H => ∃ (xs : List V) (x : V), SqT K H a xs ∧ xs[i]? = some x, fun i H v H' => ∃ T x, v = .ref T ∧ H T = none ∧ H' = upd H T (.tup [.int (i : Nat), x]) ∧ ∀ xs, SqT K H a xs → xs[i]? = some x, fun i H => ∃ xs : List V, SqT K H a xs ∧ xs.length = i⟩
theorem turn_enumT {P : Program} {w : World} {K : PySem.W.Frag} {elts : List Expr} {kk : Nat} {tpos : Pos} (a e it : Addr) :
    Turn P w K (.Tuple elts kk tpos) (IteT K a) [e, it] e (fun i h => (∃ old, IsEnum h e it ((i : Nat) : Int) old) ∧ h.IsTupleIter it a i ∧ e ≠ it ∧ a ≠ it ∧ e ≠ a) where
  mem := by simp
  obj := fun i h st b hb => by
    obtain ⟨⟨old, he⟩, ⟨o, ho, hc, hd⟩, _⟩ := st
    have e' : b = e ∨ b = it := by simpa using hb
    rcases e' with z | z
    · rw [z]; exact ⟨_, he, fun v q => nomatch q⟩
    · rw [z]; exact ⟨o, ho, fun v q => by rw [hd] at q; cases q⟩
  keep := fun i h h' st k => let ⟨⟨old, he⟩, hi, hne⟩ := st; ⟨⟨old, k e (by simp) _ he⟩, hi.at fun o q => k it (by simp) o q, hne⟩
  item := by
    intro X hP hw hK hc i pins s σ H E I hf st hg
    subst hP hw hK
    obtain ⟨⟨old, he⟩, hit, hne, hai, hea⟩ := st
    obtain ⟨xs, x, hq, hx⟩ := hg
    obtain ⟨its, rv, p, hz⟩ := I.tuple hq
    obtain ⟨u, hu, ru⟩ := rv.get hx
    have hel : e < s.heap.objs.size := Heap.lt_size he
    have hil : it < s.heap.objs.size := by obtain ⟨_, q, _⟩ := hit; exact Heap.lt_size q
    have hlt : i < its.toArray.size := by
      have := (List.getElem?_eq_some_iff.mp hu).1
      simpa using this
    refine wpAny_pyNext_enum_itemD (Draws.tuple (A := X.A.in1) (I.ok.hd hc) it a hai its.toArray) he ⟨hit, p⟩ hlt hne (by simp [hne, hea]) fun y h' tk hy ho hit' hT hsz hk => ?_
    have hyu : y = u := by
      rw [← Array.getElem?_toList] at hy
      rw [show its.toArray.toList = its from rfl, hu] at hy
      exact (Option.some.inj hy).symm
    subst hyu
    refine ⟨_, rfl, wpAny_letOwnedTupleGo_enum (s := { s with heap := h', toks := tk + 1 }) ho fun h'' he' sb => ?_⟩
    have hT2 : h''.get? s.heap.objs.size = some { cls := .type "tuple", data := .seq #[.int i tk, y] } := (sb.2 _ (Nat.ne_of_gt hel)).trans hT
    have new : ObjOk X.prog X.w (upd H s.heap.objs.size (.tup [.int (i : Nat), x])) h'' s.heap.objs.size (.tup [.int (i : Nat), x]) :=
      ⟨by show 2 ≤ sizeLine; decide, [.int i tk, y], .cons ⟨_, rfl⟩ (.cons ru .nil), ⟨_, hT2, rfl, _, rfl⟩⟩
    have I1 : Inv X pins σ (upd H s.heap.objs.size (.tup [.int (i : Nat), x])) { s with heap := h'', toks := tk + 1 } :=
      I.turnedNew (ch := [e, it]) (fun b ob hb q => (sb.2 b (fun z => hb (by simp [z]))).trans (hk b ob (fun z => hb (by simp [z])) (fun z => hb (by simp [z])) q)) hf (Nat.le_refl _) new
    refine ⟨.ref s.heap.objs.size, _, I1, rfl, ⟨_, x, rfl, I.hok.fresh (Nat.le_refl _), rfl, fun ys hy => by rw [I.tuple_inj hy hq]; exact hx⟩, ⟨⟨y, ?_⟩, hit'.1.at fun o q => (sb.2 it (Ne.symm hne)).trans q, hne, hai, hea⟩, fun b hb => ?_⟩
    · have e1 : ((i + 1 : Nat) : Int) = (i : Int) + 1 := by omega
      rw [e1]; exact he'
    · have hb' : b < s.heap.objs.size := by
        have e' : b = e ∨ b = it := by simpa using hb
        rcases e' with z | z
        · rw [z]; exact hel
        · rw [z]; exact hil
      rw [upd_ne (Nat.ne_of_lt hb')]
      exact (hf b hb).1
  done := by
    intro X hP hw hK hc i pins s σ H E I hf st hg
    subst hP hw hK
    obtain ⟨⟨old, he⟩, hit, hne, hai, hea⟩ := st
    obtain ⟨xs, hq, hx⟩ := hg
    obtain ⟨its, rv, p, hz⟩ := I.tuple hq
    obtain ⟨f0, f1, f2, f3, f4, f5⟩ := hf it (by simp)
    have hl := rv.length
    have hi : i = its.toArray.size := by simp; omega
    refine wpAny_pyNext_enum_endD (Draws.tuple (A := X.A.in1) (I.ok.hd hc) it a hai its.toArray) he ?_ fun h' eb => ⟨rfl, I.turned (t' := s.toks) (fun b o hb q => eb b o hb q) f0 f1 f3 f4 f5⟩
    rw [← hi]
    exact ⟨hit, p⟩
  self := fun A i s Q E st h => let ⟨⟨_, he⟩, _⟩ := st; wpAny_pyIter_enum he h
def iEnumT (K : PySem.W.Frag) (ta : TA) : TI := fun σ H R => ta σ H fun vs H1 => ∃ a xs, vs = [.ref a] ∧ SqT K H1 a xs ∧ R (IteT K a) H1
theorem pi_enumT {X : Cx} {K : PySem.W.Frag} {e : Expr} {ta : TA} {p pos tpos : Pos} {elts : List Expr} {kk : Nat} (hK : X.K = K) (hg : Gl X "enumerate") (hm : X.mg "enumerate" = none) (ha : PA X [e] ta) (hs : starEach [e] X.env = [(false, eval e X.env)] := by rfl) :
    PI X (.Tuple elts kk tpos) (.Call (.Name "enumerate" p) [e] [] pos) (iEnumT K ta) := by
  subst hK
  refine ⟨fun pins s σ H R I h => ?_⟩
  refine Call_ (ld_blt I hg hm boot_enumerate (PyProof.Rows.callWith_type1 (thn (ha.run pos pins s σ H _ I h) fun us s1 ⟨vs, H1, I1, r1, q1⟩ => ?_) hs rfl))
  obtain ⟨a, xs, ex, hq, q⟩ := q1
  subst ex
  cases r1 with
  | cons r rr =>
    cases rr
    cases r
    obtain ⟨its, rv, p', hz⟩ := I1.tuple hq
    have hal : a < s1.heap.objs.size := by obtain ⟨o, ho, _⟩ := p'; exact Heap.lt_size ho
    refine enum_begins1 (begins_tuple a its.toArray) p' fun h' he hit hsz hk => wpAny_pyIter_enum he ?_
    have I2 : Inv X pins σ H1 { s1 with heap := h' } := I1.kept (t' := s1.toks) hk
    refine ⟨s1.heap.objs.size + 1, [s1.heap.objs.size + 1, s1.heap.objs.size], _, _, H1, rfl, I2, turn_enumT a (s1.heap.objs.size + 1) s1.heap.objs.size, ⟨⟨.none, he⟩, ⟨_, hit, rfl, rfl⟩, Nat.succ_ne_self _, Nat.ne_of_lt hal, Nat.ne_of_gt (Nat.lt_succ_of_lt hal)⟩, fun b hb => ?_, q⟩
    have e' : b = s1.heap.objs.size + 1 ∨ b = s1.heap.objs.size := by simpa using hb
    have hle : s1.heap.objs.size ≤ b := by
      rcases e' with z | z
      · rw [z]; exact Nat.le_add_right _ _
      · rw [z]; exact Nat.le_refl _
    exact I1.fpOk hle (I1.hok.fresh hle)
/-- what enumerate gives -/
def enumD (ds : List Dt) : List Dt := ds.zipIdx.map fun p => .tup [.int (p.2 : Nat), p.1]
theorem enumD_len (ds : List Dt) : (enumD ds).length = ds.length := by simp [enumD]
theorem enumD_at {ds : List Dt} {i : Nat} {d : Dt} (h : ds[i]? = some d) : (enumD ds)[i]? = some (.tup [.int (i : Nat), d]) := by
  simp [enumD, h]
theorem enumD_get {ds : List Dt} {i : Nat} {x : Dt} (h : (enumD ds)[i]? = some x) : ∃ d, ds[i]? = some d ∧ x = .tup [.int (i : Nat), d] := by
  have hl : i < (enumD ds).length := (List.getElem?_eq_some_iff.mp h).1
  rw [enumD_len] at hl
  refine ⟨ds[i], List.getElem?_eq_getElem hl, ?_⟩
  rw [enumD_at (List.getElem?_eq_getElem hl)] at h
  exact (Option.some.inj h).symm
theorem wd_enumT {Γ : Cn} {δ : List Sl} {t : TA} {P : List Dt → Prop} (h : RA Γ t δ fun ds => ∃ es, ds = [.tup es] ∧ P (enumD es)) : WD Γ (iEnumT Γ.W.K t) δ P := fun G H σ R at_ k =>
  h G H σ _ at_ fun vs ds G1 H1 f1 g1 d1 ⟨es, e, p⟩ => by
    subst e
    cases d1 with
    | cons r1 r2 =>
      cases r2
      obtain ⟨a, xs, rfl, hs, hd⟩ := r1.tup
      refine ⟨a, xs, rfl, sqT_mono g1.sub hs, k _ _ G1 H1 f1 g1 ?_ p⟩
      unfold Wk
      rw [enumD_len, ← hd.length]
      refine ⟨fun i H2 hi q => ⟨xs, xs[i], sqT_mono q hs, List.getElem?_eq_getElem hi⟩, fun H2 q => ⟨xs, sqT_mono q hs, rfl⟩, fun i H2 v H3 hi q y => ?_⟩
      obtain ⟨T, x, rfl, hT, rfl, hx⟩ := y
      have hx' := hx xs (sqT_mono q hs)
      obtain ⟨d, hde, rd⟩ := hd.get hx'
      intro G2 e2 g2
      refine ⟨upd G2 T (.tup [.int (i : Nat), x]), .tup [.int (i : Nat), d], enumD_at hde, Fr.new g2 hT, g2.new hT, .tup (.inl (.inl upd_same)) (.cons (.int _) (.cons ?_ .nil))⟩
      exact (rd.mono e2).mono (same_new (g2.gn hT))
end Pd

set_option Elab.async false
set_option linter.all false
set_option maxRecDepth 100000
set_option maxHeartbeats 2000000
namespace HT
open PySem PySem.Spec PyProof.Rows
section
variable {prog : Program} {w : World} {A : Around} {E : Value → Shared → Prop} {s : Shared}
theorem sliceApplied_rev {sl : Addr} {vl vu vs : Value} {n : Nat} {Q : Int × Int × Nat → Shared → Prop} (hs : s.heap.IsSliceOf sl vl vu vs) (pl : IsPart vl none) (pu : IsPart vu none) (ps : IsPart vs (some (-1)))
    (h : Q ((n : Int) - 1, -1, n) s) : wpAny (model prog w) A (Builtin.Slice.sliceApplied (.ref sl) (pure (n : Int))) Q E s := by
  obtain ⟨os, hos, hcs, hds⟩ := id hs
  unfold Builtin.Slice.sliceApplied Builtin.Slice.sliceFields
  refine wpAny_bind (wpAny_bind (wpAny_field hos hds (x := vl) rfl (wpAny_bind (wpAny_field hos hds (x := vu) rfl (wpAny_bind (wpAny_field hos hds (x := vs) rfl (wpAny_pure ?_)))))))
  refine wpAny_bind (slicePart_ ps ?_)
  show wpAny _ _ (if ((-1 : Int) == 0) = true then _ else _) _ _ s
  rw [if_neg (by decide)]
  refine wpAny_bind (slicePart_ pl (wpAny_bind (slicePart_ pu (wpAny_bind (wpAny_pure ?_)))))
  show wpAny _ _ (pure ((n : Int) - 1, (-1 : Int), Builtin.Slice.slicePlaces ((n : Int) - 1) (-1) (-1))) _ _ s
  have e : Builtin.Slice.slicePlaces ((n : Int) - 1) (-1) (-1) = n := by
    unfold Builtin.Slice.slicePlaces
    rw [if_neg (by decide)]
    split
    · show (((n : Int) - 1 - -1 - 1) / 1 + 1).toNat = n
      rw [Int.ediv_one]
      omega
    · show (0 : Int).toNat = n
      have : ¬ ((n : Int) - 1 > -1) := by assumption
      have h0 : (0 : Int).toNat = 0 := rfl
      omega
  rw [e]
  exact wpAny_pure h
theorem fm_map {α β : Type} {f : α → Option β} {g : α → β} : ∀ {l : List α}, (∀ m ∈ l, f m = some (g m)) → l.filterMap f = l.map g
  | [], _ => rfl
  | m :: l, h => by rw [List.filterMap_cons, h m List.mem_cons_self, List.map_cons, fm_map fun k hk => h k (List.mem_cons_of_mem _ hk)]
theorem pick_rev (xs : Array Value) : ((List.range xs.size).filterMap fun (m : Nat) => xs[(((xs.size : Int) - 1) + (m : Int) * -1).toNat]?).toArray = xs.toList.reverse.toArray := by
  congr 1
  have e : ∀ m, m ∈ List.range xs.size → xs[(((xs.size : Int) - 1) + (m : Int) * -1).toNat]? = some (xs.toList.reverse.getD m .none) := by
    intro m hm
    have hm' := List.mem_range.mp hm
    have : (((xs.size : Int) - 1) + (m : Int) * -1).toNat = xs.size - 1 - m := by omega
    rw [this]
    rw [← Array.getElem?_toList, List.getD_eq_getElem?_getD, List.getElem?_reverse (by simpa using hm')]
    have hlt : xs.toList.length - 1 - m < xs.toList.length := by simp; omega
    have e2 : xs.size - 1 - m = xs.toList.length - 1 - m := by simp
    rw [e2, List.getElem?_eq_getElem hlt]
    rfl
  rw [fm_map e]
  apply List.ext_getElem?
  intro i
  rw [List.getElem?_map]
  by_cases hi : i < xs.size
  · rw [List.getElem?_range hi]
    have : i < xs.toList.reverse.length := by simpa using hi
    simp only [Option.map_some]
    rw [List.getD_eq_getElem?_getD, List.getElem?_eq_getElem this]
    rfl
  · rw [List.getElem?_eq_none (by simpa using hi), List.getElem?_eq_none (by simpa using hi)]
    rfl
theorem getItem_tuple_rev {t sl : Addr} {items : Array Value} {vl vu vs : Value} {Q : Value → Shared → Prop} (ht : IsTup s.heap t items) (hs : s.heap.IsSliceOf sl vl vu vs) (pl : IsPart vl none) (pu : IsPart vu none) (ps : IsPart vs (some (-1)))
    (h : Q (.ref s.heap.objs.size) { s with heap := s.heap.push { cls := .type "tuple", data := .seq items.toList.reverse.toArray } })
    (hsz : items.size ≤ sizeLine) : wpAny (model prog w) A (getItem (.ref t) (.ref sl)) Q E s := by
  have htake : sizeOk (.seq items.toList.reverse.toArray) := by
    show items.toList.reverse.toArray.size ≤ sizeLine
    rw [List.size_toArray, List.length_reverse, Array.length_toList]
    exact hsz
  obtain ⟨os, hos, hcs, hds⟩ := id hs
  have hTs : s.TypeIs (.ref sl) "slice" := ⟨os, hos, hcs⟩
  unfold getItem
  try with_reducible refine wpAny_holding ?_
  first | refine wpAny_bind (wpAny_pure ?_) | skip
  refine wpAny_bind (wpAny_sequenceKey ht.typeIs (by decide) ?_)
  refine wpAny_bind (wpAny_callSpecial?_slot (name := Str.ofString "__getitem__") ht.typeIs PyProof.Rows.slot_tuple_getitem
    (wpAny_call_entry PyProof.Rows.slot_tuple_getitem ht.typeIs entry_tuple_getitem ?_ (args_tuple_getitem _ _)))
  show wpAny _ _ (Builtin.Tuple.tupleItemsOf (.ref t) >>= _) _ _ s
  refine wpAny_bind (tupleItemsOf_ ht ?_)
  refine wpAny_bind (wpAny_typeOf hTs ?_)
  rw [if_pos (by decide)]
  refine wpAny_bind (sliceApplied_rev hs pl pu ps ?_)
  have hno : ¬ (((((items.size : Int) - 1) : Int) == 0 && (-1 : Int) == 1 && items.size == items.size) = true) := by
    intro q
    rw [Bool.and_eq_true, Bool.and_eq_true] at q
    have q1 : (-1 : Int) = 1 := eq_of_beq q.1.2
    omega
  show wpAny _ _ (if ((((items.size : Int) - 1) : Int) == 0 && (-1 : Int) == 1 && items.size == items.size) = true then _ else _) _ _ s
  rw [if_neg hno, pick_rev]
  first
    | exact wpAny_bind (m := Builtin.Tuple.tupleExact _) (wpAny_newObj_type (wpAny_pure ⟨_, rfl, wpAny_pure h⟩) htake)
    | exact wpAny_bind (m := Builtin.Tuple.tupleExact _) (wpAny_newObj_type (wpAny_bind (wpAny_pure (wpAny_pure ⟨_, rfl, wpAny_pure h⟩))) htake)
    | exact wpAny_bind (wpAny_bind (m := Builtin.Tuple.tupleExact _) (wpAny_newObj_type (wpAny_pure (wpAny_pure ⟨_, rfl, wpAny_pure h⟩)) htake))
    | exact wpAny_bind (wpAny_bind (m := Builtin.Tuple.tupleExact _) (wpAny_newObj_type (wpAny_pure ⟨_, rfl, wpAny_pure h⟩) htake))
end
end HT
namespace Pd
open PySem PySem.Spec PyProof.Rows L2
/-! ### t[::-1] of a tuple -/
def tRevT (K : PySem.W.Frag) (te : TE) : TE := fun σ H Q => te σ H fun x H1 => ∃ a xs, x = .ref a ∧ SqT K H1 a xs ∧ ∀ p, H1 p = none → Q (.ref p) (upd H1 p (.tup xs.reverse))
theorem pe_revT {X : Cx} {K : PySem.W.Frag} {e : Expr} {te : TE} {k : Nat} {p1 p2 p3 pos : Pos} (hK : X.K = K) (he : PE X e te) : PE X (.Subscript e (.Slice none none (some (.UnaryOp .USub (.Constant (.int 1) k p1) p2)) p3) pos) (tRevT K te) := by
  subst hK
  refine ⟨fun pins s σ H Q I h => ?_⟩
  refine Subscript_ (thn (he.run pins s σ H _ I h) fun v s1 ⟨x, H1, I1, r1, q1⟩ => ?_)
  obtain ⟨a, xs, ex, hx, q⟩ := q1
  subst ex
  cases r1
  have hst : PO X (some (.UnaryOp .USub (.Constant (.int 1) k p1) p2)) (tPart (tUn (rU fun i => .int (-i)) (tC (.int 1)))) := po_some (pe_un un_neg pe_int)
  refine wpAny_Slice (thn (po_none.run pins s1 σ H1 (fun o H2 => o = none ∧ H2 = H1) I1 ⟨rfl, rfl⟩) fun vl s2 ⟨l, H2, I2, pl, el, e2⟩ => ?_)
  subst el e2
  refine thn (po_none.run pins s2 σ H2 (fun o H3 => o = none ∧ H3 = H2) I2 ⟨rfl, rfl⟩) fun vu s3 ⟨u, H3, I3, pu, eu, e3⟩ => ?_
  subst eu e3
  refine thn (hst.run pins s3 σ H3 (fun o H4 => o = some (-1) ∧ H4 = H3) I3 ⟨1, rfl, -1, rfl, rfl, rfl⟩) fun vs s4 ⟨o, H4, I4, ps, eo, e4⟩ => ?_
  subst eo e4
  have I5 : Inv X pins σ H4 { s4 with heap := s4.heap.push { cls := .type "slice", data := .fields #[vl, vu, vs] } } := I4.kept (t' := s4.toks) fun b ob q => Heap.get?_push_of_some _ q
  obtain ⟨its, r, ht, hz⟩ := I5.tuple hx
  have hlen := r.length
  show wpAny (model X.prog X.w) X.A (subscriptTail e (.Slice none none (some (.UnaryOp .USub (.Constant (.int 1) k p1) p2)) p3) (.ref a) (.ref s4.heap.objs.size)) (EP X pins σ Q) X.xe { s4 with heap := s4.heap.push { cls := .type "slice", data := .fields #[vl, vu, vs] } }
  refine tail_any (ops := [.ref a, .ref s4.heap.objs.size]) ht.typeIs (PyProof.Rows.slot_tuple_getitem.lookup) ?_ (by with_unfolding_all rfl)
  refine HT.getItem_tuple_rev ht (Heap.IsSliceOf.new _ vl vu vs) pl pu ps ?_ (by rw [List.size_toArray]; omega)
  refine ⟨.ref _, _, I5.laid (t' := s4.toks) (o := .tup xs.reverse) (fun b ob q => Heap.get?_push_of_some _ q) (Nat.le_refl _) ?_, rfl, q _ (I5.hok.fresh (Nat.le_refl _))⟩
  exact ⟨by rw [List.length_reverse]; exact hz, _, r.reverse, IsTup.new _ _⟩
theorem ed_revT {Γ : Cn} {δ : List Sl} {te : TE} {P : Dt → Prop} (h : ED Γ te δ fun x => ∃ ds, x = .tup ds ∧ P (.tup ds.reverse)) : ED Γ (tRevT Γ.W.K te) δ P := fun G H σ Q at_ k =>
  h G H σ _ at_ fun v x G1 H1 f1 g1 d1 ⟨ds, e, p⟩ => by
    subst e
    cases d1 with
    | @tup a us _ h1 r1 =>
      refine ⟨a, us, rfl, sqT_mono g1.sub h1, fun q hq => ?_⟩
      exact k _ _ (upd G1 q (.tup us.reverse)) _ (f1.trans (Fr.new g1 hq) (g1.new hq)) (g1.new hq) (.tup (.inl (.inl upd_same)) (r1.reverse.mono (same_new (g1.gn hq)))) p

/-! ### sorted(list of data) -/
def rSortD (K : PySem.W.Frag) : List V → Hp → VK → Prop := fun vs H Q => ∃ (a : Addr) (xs : List V) (ps : List PyData), vs = [.ref a] ∧ SqL K H a xs ∧ DpAll K H xs ps ∧ PySem.W.AllAlike ps ∧ PySem.W.Sortable ps ∧ (∀ p ∈ ps, p.depth ≤ 60) ∧
  ∀ q, H q = none → Q (.ref q) (upd H q (.lst (((xs.zip ps).mergeSort (PySem.W.dataLe false Prod.snd)).map Prod.fst)))
theorem each_of {X : Cx} {pins : List (Addr × Obj)} {σ : L2.St} {H : Hp} {s : Shared} (I : Inv X pins σ H s) : ∀ {xs : List V} {ps : List PyData} {its : List Value}, DpAll X.K H xs ps → Vals xs its →
    PySem.W.EachIs (fun v (b : V × PyData) => RelV b.1 v) its (xs.zip ps) ∧ PySem.W.EachIs (fun v (b : V × PyData) => ∃ as, Reads s.heap v b.2 as) its (xs.zip ps)
  | _, _, _, .nil, .nil => ⟨.nil, .nil⟩
  | _, _, _, .cons h t, .cons r rr => by
    obtain ⟨a, b⟩ := each_of I t rr
    exact ⟨.cons r a, .cons (Dp.reads I _ _ _ h r) b⟩
theorem dpall_len {K : PySem.W.Frag} {H : Hp} : ∀ {xs : List V} {ps : List PyData}, DpAll K H xs ps → xs.length = ps.length
  | _, _, .nil => rfl
  | _, _, .cons _ t => by rw [List.length_cons, List.length_cons, dpall_len t]
theorem each_vals : ∀ {out : List Value} {bs : List (V × PyData)}, PySem.W.EachIs (fun v (b : V × PyData) => RelV b.1 v) out bs → Vals (bs.map Prod.fst) out
  | _, _, .nil => .nil
  | _, _, .cons r t => .cons r (each_vals t)
theorem zip_snd : ∀ {xs : List V} {ps : List PyData}, xs.length = ps.length → (xs.zip ps).map (fun b => b.2) = ps
  | [], [], _ => rfl
  | x :: xs, p :: ps, h => by rw [List.zip_cons_cons, List.map_cons, zip_snd (by simpa using h)]
theorem callSortD {X : Cx} (hu : X.A.units + 64 < cLine) : CallR X (.builtin "sorted") (rSortD X.K) := by
  intro pins s σ H vs us Q I r h
  obtain ⟨a, xs, ps, rfl, hs, hd, hal, hk, hdp, q⟩ := h
  obtain ⟨its, rv, hl, hz⟩ := I.list hs
  obtain ⟨u, rfl, ru⟩ := vals1 r
  obtain rfl : u = Value.ref a := ru
  obtain ⟨e1, e2⟩ := each_of I hd rv
  have hlen := dpall_len hd
  have ezs : (xs.zip ps).map (fun b => b.2) = ps := zip_snd hlen
  have hzl : (xs.zip ps).length = xs.length := by rw [List.length_zip, hlen, Nat.min_self]
  refine PySem.W.sorted_data (enc := fun b : V × PyData => b.2) hl.isList e1 e2 (by rw [ezs]; exact hal) (by rw [ezs]; exact hk) (by rw [hzl]; exact hz) (fun b hb => ?_) fun out hout he => ?_
  · have := hdp b.2 (List.of_mem_zip hb).2
    omega
  · obtain ⟨c, hc⟩ := sortedAll_at s.heap its out.toArray
    have hn : H (s.heap.objs.size + 1) = none := I.hok.fresh (Nat.le_succ _)
    refine ⟨.ref (s.heap.objs.size + 1), _, I.laid (o := .lst (((xs.zip ps).mergeSort (PySem.W.dataLe false Prod.snd)).map Prod.fst)) (t' := s.toks) (fun _ _ => sortedAll_old) (Nat.le_succ _) ⟨?_, out, c, each_vals he, hc⟩, rfl, q _ hn⟩
    rw [List.length_map, List.length_mergeSort, hzl]
    exact hz
theorem drall_mem {K : PySem.W.Frag} {G : Hp} : ∀ {bs : List (V × Dt)}, (∀ b ∈ bs, Dr K G b.1 b.2) → DrAll K G (bs.map Prod.fst) (bs.map Prod.snd)
  | [], _ => .nil
  | b :: bs, h => .cons (h b List.mem_cons_self) (drall_mem fun c hc => h c (List.mem_cons_of_mem _ hc))
theorem toPys_map {β : Type} {dt : β → Dt} {enc : β → PyData} : ∀ {cs : List β}, (∀ c ∈ cs, toPy (dt c) = some (enc c)) → toPys (cs.map dt) = some (cs.map enc)
  | [], _ => rfl
  | c :: cs, h => by
    rw [List.map_cons, List.map_cons, toPys, h c List.mem_cons_self, toPys_map fun d hd => h d (List.mem_cons_of_mem _ hd)]
theorem drall_map_mem {K : PySem.W.Frag} {G : Hp} {β : Type} {dt : β → Dt} : ∀ {xs : List V} {cs : List β}, DrAll K G xs (cs.map dt) → ∀ b ∈ xs.zip cs, Dr K G b.1 (dt b.2)
  | _, [], _, b, hb => by simp at hb
  | _, c :: cs, .cons r t, b, hb => by
    rcases List.mem_cons.mp hb with rfl | hb
    · exact r
    · exact drall_map_mem t b hb
theorem drall_bs {K : PySem.W.Frag} {G : Hp} {β : Type} {dt : β → Dt} : ∀ {bs : List (V × β)}, (∀ b ∈ bs, Dr K G b.1 (dt b.2)) → DrAll K G (bs.map Prod.fst) ((bs.map Prod.snd).map dt)
  | [], _ => .nil
  | b :: bs, h => .cons (h b List.mem_cons_self) (drall_bs fun c hc => h c (List.mem_cons_of_mem _ hc))
theorem zip_map_snd {β : Type} {enc : β → PyData} : ∀ {xs : List V} {cs : List β}, xs.zip (cs.map enc) = (xs.zip cs).map fun b => (b.1, enc b.2)
  | [], _ => by simp
  | _ :: _, [] => by simp
  | x :: xs, c :: cs => by rw [List.map_cons, List.zip_cons_cons, List.zip_cons_cons, List.map_cons, zip_map_snd]
theorem zip_snd' {β : Type} : ∀ {xs : List V} {cs : List β}, xs.length = cs.length → (xs.zip cs).map Prod.snd = cs
  | [], [], _ => rfl
  | x :: xs, p :: ps, h => by rw [List.zip_cons_cons, List.map_cons, zip_snd' (by simpa using h)]
/-- the sorted values, by what they stand for -/
theorem sort_dr {K : PySem.W.Frag} {G : Hp} {β : Type} {dt : β → Dt} {enc : β → PyData} {xs : List V} {cs : List β} (h : DrAll K G xs (cs.map dt)) :
    DrAll K G (((xs.zip (cs.map enc)).mergeSort (PySem.W.dataLe false Prod.snd)).map Prod.fst) ((cs.mergeSort (PySem.W.dataLe false enc)).map dt) := by
  have hl : xs.length = cs.length := by rw [h.length, List.length_map]
  have e1 : (xs.zip (cs.map enc)).mergeSort (PySem.W.dataLe false Prod.snd) = ((xs.zip cs).mergeSort (PySem.W.dataLe false fun b => enc b.2)).map fun b => (b.1, enc b.2) := by
    rw [zip_map_snd]
    exact (List.map_mergeSort (r := PySem.W.dataLe false fun b : V × β => enc b.2) (s := PySem.W.dataLe false Prod.snd) (f := fun b : V × β => (b.1, enc b.2)) fun a _ b _ => rfl).symm
  have e2 : cs.mergeSort (PySem.W.dataLe false enc) = ((xs.zip cs).mergeSort (PySem.W.dataLe false fun b => enc b.2)).map Prod.snd := by
    rw [List.map_mergeSort (r := PySem.W.dataLe false fun b : V × β => enc b.2) (s := PySem.W.dataLe false enc) (f := Prod.snd) fun a _ b _ => rfl, zip_snd' hl]
  rw [e1, e2, List.map_map]
  have : (Prod.fst ∘ fun (b : V × β) => (b.1, enc b.2)) = Prod.fst := rfl
  rw [this]
  refine drall_bs fun b hb => ?_
  exact drall_map_mem h b ((List.mergeSort_perm _ _).mem_iff.mp hb)
section
variable {W : Wo} {P : Dt → Prop}
theorem cd_sort {β : Type} {cs : List β} {dt : β → Dt} {enc : β → PyData} (h1 : ∀ c ∈ cs, toPy (dt c) = some (enc c)) (h2 : PySem.W.AllAlike (cs.map enc)) (h3 : PySem.W.Sortable (cs.map enc)) (h4 : ∀ c ∈ cs, (enc c).depth ≤ 60)
    (p : P (.lst ((cs.mergeSort (PySem.W.dataLe false enc)).map dt))) : CD W (rSortD W.K) [.lst (cs.map dt)] P := fun G H vs Q g hv k => by
  cases hv with
  | cons r rr =>
    cases rr
    obtain ⟨a, us, rfl, hH, r1⟩ := r.lst g
    have hdp := (r1.mono g.sub).dp (toPys_map h1)
    refine ⟨a, us, cs.map enc, rfl, SqL.of hH, hdp, h2, h3, fun p hp => ?_, fun q hq => ?_⟩
    · obtain ⟨c, hc, rfl⟩ := List.mem_map.mp hp
      exact h4 c hc
    · exact k _ _ (upd G q (.lst _)) _ (Fr.new g hq) (g.new hq) (.lst upd_same ((sort_dr r1).mono (same_new (g.gn hq)))) p

/-! ### divmod -/
def rDm : List V → Hp → VK → Prop := fun xs H Q => ∃ i j, xs = [.int i, .int j] ∧ CDivP i j ∧ ∀ p, H p = none → Q (.ref p) (upd H p (.tup [.int (i / j), .int (i % j)]))
theorem callDm {X : Cx} : CallR X (.builtin "divmod") rDm := call_divmodW
theorem divp_small {i j : Int} (hj : 0 < j) (h : j < 2 ^ 200) : CDivP i j := by
  refine ⟨hj, ?_⟩
  show (decide ((if j == 0 then 0 else j.natAbs.log2 / 30 + 1) > 300) && decide ((if i == 0 then 0 else i.natAbs.log2 / 30 + 1) > (if j == 0 then 0 else j.natAbs.log2 / 30 + 1) + 150)) = false
  rw [if_neg (show ¬ (j == 0) = true by simpa using (show j ≠ 0 by omega))]
  have hl : j.natAbs.log2 < 200 := by
    have h2 : j.natAbs < 2 ^ 200 := by
      have : ((j.natAbs : Nat) : Int) < ((2 ^ 200 : Nat) : Int) := by
        rw [Int.natAbs_of_nonneg (by omega)]
        exact h
      exact Int.ofNat_lt.mp this
    exact PySem.Flt.log2_lt_of (by decide) h2
  rw [decide_eq_false (by omega), Bool.false_and]
theorem cd_dm {i j : Int} (hc : CDivP i j) (p : P (.tup [.int (i / j), .int (i % j)])) : CD W rDm [.int i, .int j] P := fun G H vs Q g hv k => by
  cases hv with
  | cons r rr =>
    cases rr with
    | cons r2 r3 =>
      cases r3
      cases r.int
      cases r2.int
      exact ⟨i, j, rfl, hc, fun q hq => k _ _ (upd G q (.tup _)) _ (Fr.new g hq) (g.new hq) (.tup (.inl (.inl upd_same)) (.cons (.int _) (.cons (.int _) .nil))) p⟩

/-! ### tuple(x), list(x) -/
def rTupOf (K : PySem.W.Frag) : List V → Hp → VK → Prop := fun xs H Q => ∃ p ys, xs = [.ref p] ∧ ((SqL K H p ys ∧ ∀ l, H l = none → Q (.ref l) (upd H l (.tup ys))) ∨ (SqT K H p ys ∧ Q (.ref p) H))
theorem callTupOf {X : Cx} : CallR X (.type "tuple") (rTupOf X.K) := call_tuple_of
def rLstOf (K : PySem.W.Frag) : List V → Hp → VK → Prop := fun xs H Q => ∃ p ys, xs = [.ref p] ∧ (SqL K H p ys ∨ SqT K H p ys) ∧ ∀ l, H l = none → Q (.ref l) (upd H l (.lst ys))
theorem callLstOf {X : Cx} : CallR X (.type "list") (rLstOf X.K) := call_list_of
theorem cd_tupL {ds : List Dt} (p : P (.tup ds)) : CD W (rTupOf W.K) [.lst ds] P := fun G H vs Q g hv k => by
  cases hv with
  | cons r rr =>
    cases rr
    obtain ⟨a, us, rfl, hH, r1⟩ := r.lst g
    exact ⟨a, us, rfl, .inl ⟨SqL.of hH, fun q hq => k _ _ (upd G q (.tup us)) _ (Fr.new g hq) (g.new hq) (.tup (.inl (.inl upd_same)) (r1.mono (same_new (g.gn hq)))) p⟩⟩
theorem cd_tupT {ds : List Dt} (p : P (.tup ds)) : CD W (rTupOf W.K) [.tup ds] P := fun G H vs Q g hv k => by
  cases hv with
  | cons r rr =>
    cases rr
    obtain ⟨a, us, rfl, hH, r1⟩ := r.tup
    exact ⟨a, us, rfl, .inr ⟨sqT_mono g.sub hH, k _ _ G H (Fr.refl _ _ _) g (.tup hH r1) p⟩⟩
end
section
variable {Γ : Cn} {δ : List Sl}
/-- list(x): a new list -/
theorem nl_lstOf {t : TA} {P : List Dt → Prop} (h : RA Γ t δ fun ds => (∃ es, ds = [.lst es] ∧ P es) ∨ ∃ es, ds = [.tup es] ∧ P es) : NL Γ (tCB (rLstOf Γ.W.K) t) δ P := fun G H σ Q at_ k =>
  h G H σ _ at_ fun vs ds G1 H1 f1 g1 d1 hp => by
    rcases hp with ⟨es, rfl, p⟩ | ⟨es, rfl, p⟩
    · cases d1 with
      | cons r rr =>
        cases rr
        obtain ⟨a, us, rfl, hH, r1⟩ := r.lst g1
        exact ⟨a, us, rfl, .inl (SqL.of hH), fun q hq => k q us es G1 _ (f1.trans (Fr.newM g1 hq) (g1.setM (g1.gn hq) (g1.nm hq))) (g1.setM (g1.gn hq) (g1.nm hq)) (fr_back f1 g1 hq) upd_same (g1.gn hq) r1 p⟩
    · cases d1 with
      | cons r rr =>
        cases rr
        obtain ⟨a, us, rfl, hH, r1⟩ := r.tup
        exact ⟨a, us, rfl, .inr (sqT_mono g1.sub hH), fun q hq => k q us es G1 _ (f1.trans (Fr.newM g1 hq) (g1.setM (g1.gn hq) (g1.nm hq))) (g1.setM (g1.gn hq) (g1.nm hq)) (fr_back f1 g1 hq) upd_same (g1.gn hq) r1 p⟩
theorem drall_rg {K : PySem.W.Frag} {G : Hp} (a b : Int) : DrAll K G (rgV a b) (upto a (b - a).toNat) := by
  unfold rgV upto
  generalize List.range (b - a).toNat = l
  induction l with
  | nil => exact .nil
  | cons i l ih => exact .cons (.int _) ih
/-- list(range(n)) -/
theorem nl_lstRg {te : TE} {P : List Dt → Prop} (h : ED Γ te δ fun d => ∃ j : Int, d = .int j ∧ 0 ≤ j ∧ j ≤ 100000 ∧ P (upto 0 j.toNat)) : NL Γ (tLstRg (tRg1 te)) δ P := fun G H σ Q at_ k =>
  h G H σ _ at_ fun v d G1 H1 f1 g1 d1 ⟨j, e, h0, h1, p⟩ => by
    subst e
    cases d1
    refine ⟨j, rfl, RgOk.of_le (Int.le_refl 0) (by omega) (by omega) h0, fun q hq => ?_⟩
    have := drall_rg (K := Γ.W.K) (G := G1) 0 j
    rw [Int.sub_zero] at this
    exact k q _ _ G1 _ (f1.trans (Fr.newM g1 hq) (g1.setM (g1.gn hq) (g1.nm hq))) (g1.setM (g1.gn hq) (g1.nm hq)) (fr_back f1 g1 hq) upd_same (g1.gn hq) this p
theorem ed_tupRg {te : TE} {P : Dt → Prop} (h : ED Γ te δ fun d => ∃ j : Int, d = .int j ∧ 0 ≤ j ∧ j ≤ 100000 ∧ P (.tup (upto 0 j.toNat))) : ED Γ (tTupRg (tRg1 te)) δ P := fun G H σ Q at_ k =>
  h G H σ _ at_ fun v d G1 H1 f1 g1 d1 ⟨j, e, h0, h1, p⟩ => by
    subst e
    cases d1
    refine ⟨j, rfl, RgOk.of_le (Int.le_refl 0) (by omega) (by omega) h0, fun q hq => ?_⟩
    have := drall_rg (K := Γ.W.K) (G := G1) 0 j
    rw [Int.sub_zero] at this
    exact k _ _ (upd G1 q (.tup (rgV 0 j))) _ (f1.trans (Fr.new g1 hq) (g1.new hq)) (g1.new hq) (.tup (.inl (.inl upd_same)) (this.mono (same_new (g1.gn hq)))) p
end
end Pd

set_option Elab.async false
set_option linter.all false
set_option maxRecDepth 100000
set_option maxHeartbeats 2000000
/-! comparisons where an object's own __eq__ answers -/
namespace Po
open PySem PySem.Spec PyProof.Rows
/-- what of the text a class with its own __eq__ has -/
structure Kd (K : PySem.W.Frag) (C : Addr) : Prop where
  cl : L2.Cls K C
  ha : PySem.W.findIn K (.ref C) "__class__" = some (some (.builtin "object.__class__"))
  hn : PySem.W.specialIn K (.builtin "object.__class__") "__get__" = some (some (.builtin "getset_descriptor.__get__"))
  htk : PySem.W.takesIn K (.builtin "object.__class__") = some true
  hm : PySem.W.mroIn K C (.type "object") = some true
  hmt : PySem.W.mroIn K C (.type "tuple") = some false
  ne : PySem.W.findIn K (.ref C) "__ne__" = some (some (.builtin "object.__ne__"))
  kc : ((PySem.W.clsIn K C).isSome && PySem.W.typeIn K (.ref C) == some (.type "type")) = true
/-- a built-in type with no class of the text among its bases -/
def NoRef (T : String) : Prop := ∃ l, fastBuiltinMro T = some l ∧ ∀ C : Addr, l.contains (.ref C) = false
theorem NoRef.sub {T : String} (h : NoRef T) (K : PySem.W.Frag) (C : Addr) : PySem.W.subIn K (.type T) (.ref C) = some false := by
  obtain ⟨l, e, q⟩ := h
  show (fastBuiltinMro T).map (·.contains (.ref C)) = some false
  rw [e]
  exact congrArg some (q C)
theorem noRef_none : NoRef "NoneType" := ⟨[.type "NoneType", .type "object"], by decide +kernel, fun C => by simp⟩
theorem noRef_bool : NoRef "bool" := ⟨[.type "bool", .type "int", .type "object"], by decide +kernel, fun C => by simp⟩
theorem noRef_int : NoRef "int" := ⟨[.type "int", .type "object"], by decide +kernel, fun C => by simp⟩
theorem noRef_str : NoRef "str" := ⟨[.type "str", .type "object"], by decide +kernel, fun C => by simp⟩
theorem noRef_tuple : NoRef "tuple" := ⟨[.type "tuple", .type "object"], by decide +kernel, fun C => by simp⟩
theorem noRef_list : NoRef "list" := ⟨[.type "list", .type "object"], by decide +kernel, fun C => by simp⟩
theorem noRef_dict : NoRef "dict" := ⟨[.type "dict", .type "object"], by decide +kernel, fun C => by simp⟩
section
variable {prog : Program} {w : World} {A : Around} {E : Value → Shared → Prop} {s : Shared} {K : PySem.W.Frag} {x C f : Addr} {ox : Obj} {od : Option Obj}
open Builtin in
/-- b == x, b of a built-in type that declines, x an instance with its own __eq__ -/
theorem rc_refl {b : Value} {T : String} {Q : Value → Shared → Prop} (hu : A.units < cLine) (X : K.In s.heap) (I : PySem.W.InstAt s.heap x ox C od) (hm : PySem.W.mroIn K C (.type T) = some false) (hT : s.TypeIs b T)
    (hone : oneThing? .Eq b (.ref x) = none) (hdec : wpAny (model prog w) A (tryCompare b "__eq__" (.ref x)) (fun r s' => r = none ∧ s' = s) E s)
    (hs : PySem.W.findIn K (.ref C) "__eq__" = some (some (.ref f))) (hf : PySem.W.isFn K (.ref f) = true)
    (h : wpAny (model prog w) A (call (.ref f) [.ref x, b]) (PySem.W.CmpBack Q) E s) : wpAny (model prog w) A (richCompare .Eq b (.ref x)) Q E s := by
  have one : wpAny (model prog w) A (tryCompare (.ref x) "__eq__" b) (fun r s' => ∃ v, r = some v ∧ Q v s') E s := by
    unfold tryCompare
    refine wpAny_bind (PySem.W.ifBound_K X I hs hf (wpAny_mono h (fun v s' hv => ?_) fun _ _ e => e))
    cases v <;> first | exact hv.elim | exact wpAny_pure ⟨_, rfl, hv⟩
  simp only [richCompare, cmpInfo_Eq, hone]
  refine wpAny_holding (wpAny_bind (wpAny_cRoomFor hu ?_))
  refine wpAny_bind (wpAny_typeOf hT ?_)
  refine wpAny_bind (I.type.here ?_)
  rw [show (Value.type T != Value.ref C) = true from by simp]
  simp only [if_true]
  refine wpAny_bind ((PySem.W.looks_mroIn X hm).here ?_)
  simp only [Bool.false_eq_true, if_false, Bool.not_false, if_true]
  refine wpAny_bind (m := tryCompare b _ (.ref x)) (wpAny_mono hdec (fun r s1 z => ?_) fun _ _ e => e)
  obtain ⟨z1, z2⟩ := z
  subst z1
  subst z2
  refine wpAny_bind (m := tryCompare (.ref x) _ b) (wpAny_mono one (fun r s2 z => ?_) fun _ _ e => e)
  obtain ⟨v, rfl, hq⟩ := z
  exact wpAny_pure hq
theorem dec_none : wpAny (model prog w) A (tryCompare .none "__eq__" (.ref x)) (fun r s' => r = none ∧ s' = s) E s :=
  wpAny_tryCompare_declines (show s.TypeIs .none "NoneType" from rfl) F.slot_NoneType_eq_refl (call_gives F.slot_NoneType_eq_refl rfl F.entry_NoneType_eq (F.args_NoneType_eq_2 _ _) (PySem.SeqAt.NoneType___eq___none_ref_0 x) ⟨rfl, rfl, rfl⟩)
theorem int_dec (i : Int) (t : Tok) (x dx C : Addr) : Meets (Builtin.«int.__eq__» ⟨[.int i t, .ref x], []⟩) (fun _ R s => s.heap.get? x = some (PySem.W.instObj C dx) ∧ R (.ok (.ret .notImplemented)) s) :=
  .of_wp fun prog w A R s h => by obtain ⟨hp, g, d, tk, os⟩ := s; obtain ⟨hl, h⟩ := h; wp_walk using wpAny_load hl; exact ⟨_, rfl, h⟩
theorem bool_dec (i : Bool) (x dx C : Addr) : Meets (Builtin.«int.__eq__» ⟨[.bool i, .ref x], []⟩) (fun _ R s => s.heap.get? x = some (PySem.W.instObj C dx) ∧ R (.ok (.ret .notImplemented)) s) :=
  .of_wp fun prog w A R s h => by obtain ⟨hp, g, d, tk, os⟩ := s; obtain ⟨hl, h⟩ := h; wp_walk using wpAny_load hl; exact ⟨_, rfl, h⟩
theorem str_dec (i : Str) (t : Tok) (x dx C : Addr) : Meets (Builtin.«str.__eq__» ⟨[.str i t, .ref x], []⟩) (fun _ R s => s.heap.get? x = some (PySem.W.instObj C dx) ∧ R (.ok (.ret .notImplemented)) s) :=
  .of_wp fun prog w A R s h => by obtain ⟨hp, g, d, tk, os⟩ := s; obtain ⟨hl, h⟩ := h; wp_walk using wpAny_load hl; exact ⟨_, rfl, h⟩
theorem dec_int {i : Int} {t : Tok} {dx : Addr} (hx : s.heap.get? x = some (PySem.W.instObj C dx)) : wpAny (model prog w) A (tryCompare (.int i t) "__eq__" (.ref x)) (fun r s' => r = none ∧ s' = s) E s :=
  wpAny_tryCompare_declines (typeIs_int s i t) F.slot_int_eq_refl (call_meets F.slot_int_eq_refl (typeIs_int s i t) F.entry_int_eq (F.args_int_eq_2 _ _) (int_dec i t x dx C) ⟨hx, rfl, rfl, rfl⟩)
theorem dec_bool {i : Bool} {dx : Addr} (hx : s.heap.get? x = some (PySem.W.instObj C dx)) : wpAny (model prog w) A (tryCompare (.bool i) "__eq__" (.ref x)) (fun r s' => r = none ∧ s' = s) E s :=
  wpAny_tryCompare_declines (show s.TypeIs (.bool i) "bool" from rfl) F.slot_bool_eq_refl (call_meets F.slot_bool_eq_refl (show s.TypeIs (.bool i) "bool" from rfl) F.entry_int_eq (F.args_int_eq_2 _ _) (bool_dec i x dx C) ⟨hx, rfl, rfl, rfl⟩)
theorem dec_str {i : Str} {t : Tok} {dx : Addr} (hx : s.heap.get? x = some (PySem.W.instObj C dx)) : wpAny (model prog w) A (tryCompare (.str i t) "__eq__" (.ref x)) (fun r s' => r = none ∧ s' = s) E s :=
  wpAny_tryCompare_declines (typeIs_str s i t) F.slot_str_eq_refl (call_meets F.slot_str_eq_refl (typeIs_str s i t) F.entry_str_eq (F.args_str_eq_2 _ _) (str_dec i t x dx C) ⟨hx, rfl, rfl, rfl⟩)
open Builtin in
theorem dec_tuple {l : Addr} (hl : s.TypeIs (.ref l) "tuple") (X : K.In s.heap) (I : PySem.W.InstAt s.heap x ox C od) (hm : PySem.W.mroIn K C (.type "tuple") = some false) : wpAny (model prog w) A (tryCompare (.ref l) "__eq__" (.ref x)) (fun r s' => r = none ∧ s' = s) E s := by
  refine wpAny_tryCompare_declines hl F.slot_tuple_eq_refl (GQ.call_here F.slot_tuple_eq_refl hl F.entry_tuple_eq (F.args_tuple_eq_2 _ _) ?_)
  have hi : ∀ {A' : Around} {E' : Value → Shared → Prop} {Q' : Bool → Shared → Prop}, Q' false s → wpAny (model prog w) A' (isInstance (.ref x) (.type "tuple")) Q' E' s := fun q => (show PySem.W.Looks (model prog w) s.heap (isInstance (.ref x) (.type "tuple")) false from I.type.andThen (PySem.W.looks_mroIn X hm)).here q
  unfold Builtin.«tuple.__eq__»
  show wpAny _ _ (slotArgs "__eq__" 1 _ >>= _) _ _ s
  refine wpAny_bind (m := slotArgs "__eq__" 1 _) (wpAny_pure ?_)
  refine wpAny_bind (m := isInstance (.ref x) (.type "tuple")) (hi ?_)
  rw [if_pos (show (!false) = true from rfl)]
  exact wpAny_pure ⟨rfl, rfl, rfl⟩
open Builtin in
/-- x != b, x an instance with its own __eq__ and no __ne__ of its own -/
theorem rc_ne {b tb : Value} {Q : Value → Shared → Prop} (hu : A.units + 1 < cLine) (X : K.In s.heap) (I : PySem.W.InstAt s.heap x ox C od) (hb : PySem.W.Looks (model prog w) s.heap (typeOf b) tb) (hn : PySem.W.notFirst K C tb = true)
    (k : Kd K C) (hs : PySem.W.findIn K (.ref C) "__eq__" = some (some (.ref f))) (hf : PySem.W.isFn K (.ref f) = true)
    (h : wpAny (model prog w) A.in1 (call (.ref f) [.ref x, b]) (fun v s' => ∃ r, v = .bool r ∧ Q (.bool (!r)) s') E s) : wpAny (model prog w) A (richCompare .NotEq (.ref x) b) Q E s := by
  have one : wpAny (model prog w) A (tryCompare (.ref x) "__ne__" b) (fun r s' => ∃ v, r = some v ∧ Q v s') E s := by
    unfold tryCompare
    refine wpAny_bind ?_
    simp only [callSpecialIfBound?, bindSpecialIfBound?]
    refine wpAny_holding (wpAny_bind (wpAny_bind (wpAny_bind (I.type.here ((PySem.W.looks_findIn X k.ne).here ?_)))))
    refine wpAny_bind (wpAny_askSetting (wpAny_ite ?_))
    have fin : wpAny (model prog w) A (call (.builtin "object.__ne__") ([.ref x] ++ [b]) >>= fun v => pure (some v)) (fun a s₁ => wpAny (model prog w) A (match a with | some .notImplemented | none => pure none | some v => pure (some v)) (fun r s' => ∃ v, r = some v ∧ Q v s') E s₁) E s := by
      refine wpAny_bind (wpAny_call (codeAny_call_builtin F.cmp_object.ne.plain F.cmpEntry_ne (PySem.W.check_slot F.cmpKind_ne F.cmpSplit_ne (I.type.andThen (PySem.W.looks_mroIn X k.hm)) (F.cmpArgs_ne _ _) ?_)))
      unfold Builtin.«object.__ne__»
      refine wpAny_bind (m := slotArgs "__ne__" 1 _) (wpAny_pure ?_)
      refine wpAny_bind (m := cRoomFor _ _) (wpAny_cRoomFor hu ?_)
      refine wpAny_bind (m := callSpecialIfBound? (.ref x) (Str.ofString "__eq__") _) (PySem.W.ifBound_K X I hs hf (wpAny_mono h (fun r s' hr => ?_) fun _ _ y => y))
      obtain ⟨r, rfl, hq⟩ := hr
      refine wpAny_bind (m := truthy (.bool r)) (wpAny_truthy_bool ?_)
      exact wpAny_pure (wpAny_pure (wpAny_pure ⟨_, rfl, hq⟩))
    split
    · exact wpAny_bind (wpAny_of_eq (F.cmp_object.ne.bind _) (wpAny_pure (by exact fin)))
    · exact wpAny_tryCatch (wpAny_bind (wpAny_of_eq (F.cmp_object.ne.bind _) (wpAny_pure (by exact fin))))
  simp only [richCompare, cmpInfo_NotEq, oneThing_ref]
  refine wpAny_holding (wpAny_bind (wpAny_cRoomFor (Nat.lt_of_succ_lt hu) ?_))
  refine wpAny_bind (I.type.here (wpAny_bind (hb.here ?_)))
  split
  · rename_i q
    have e : PySem.W.subIn K tb (.ref C) = some false := by
      rcases Bool.or_eq_true_iff.mp hn with e | e
      · rw [beq_iff_eq.mp e] at q; simp at q
      · exact beq_iff_eq.mp e
    refine wpAny_bind ((PySem.W.looks_subIn X e).here ?_)
    simp only [Bool.false_eq_true, if_false]
    refine wpAny_bind (wpAny_mono one (fun r s' z => ?_) fun _ _ e => e)
    obtain ⟨v, rfl, hq⟩ := z
    exact wpAny_pure hq
  · refine wpAny_bind (wpAny_pure ?_)
    simp only [Bool.false_eq_true, if_false]
    refine wpAny_bind (wpAny_mono one (fun r s' z => ?_) fun _ _ e => e)
    obtain ⟨v, rfl, hq⟩ := z
    exact wpAny_pure hq
end
end Po

set_option Elab.async false
set_option linter.all false
set_option maxRecDepth 100000
set_option maxHeartbeats 2000000
namespace Pd
open PySem PySem.Spec PyProof.Rows L2
/-! ### methods and makers, by class -/
structure ClM (P : Program) (w : World) (K : PySem.W.Frag) (mg : Str → Option Value) (base : Heap) (k : Nat) (C : Addr) (m : Str) (sp : Sp) : Prop where
  ex : ∃ (f : Addr) (fd : FuncData) (ps : List Str), FnOk P w K mg base L2.CX0 k f fd ps sp ∧ Meth K C m f ∧ Binds K fd ps []
/-- C(..): all parameters by position -/
structure ClI (P : Program) (w : World) (K : PySem.W.Frag) (mg : Str → Option Value) (base : Heap) (k : Nat) (C : Addr) (x : Str) (sp : Sp) : Prop where
  ex : ∃ (f : Addr) (fd : FuncData) (ps : List Str), FnOk P w K mg base L2.CX0 k f fd ps sp ∧ Mk K C f ∧ mg x = some (.ref C) ∧ Binds K fd ps []
/-- C(e, .., k = v, ..): n by position, ks by name -/
structure ClIK (P : Program) (w : World) (K : PySem.W.Frag) (mg : Str → Option Value) (base : Heap) (k : Nat) (C : Addr) (x : Str) (n : Nat) (ks : List Str) (gV : List V → List V → List V) (sp : Sp) : Prop where
  ex : ∃ (f : Addr) (fd : FuncData) (ps : List Str) (g : List Value → List Value → List Value), FnOk P w K mg base L2.CX0 k f fd ps sp ∧ Mk K C f ∧ mg x = some (.ref C) ∧ KBn K fd ps (n + 1) ks g gV
section
variable {X : Cx} {j k n : Nat} {C : Addr} {x m : Str} {sp : Sp} {p pos apos : Pos} {e o : Expr} {es : List Expr} {t tk : TA} {kws : List Keyword} {ks : List Str} {gV : List V → List V → List V} {ta : TE}
theorem pe_mk (c : ClI X.prog X.w X.K X.mg X.base k C x sp) (hr : Room j X.A) (hk : k + 1 ≤ j) (hg : Gl X x) (ha : PA X (e :: es) t) (hdb : (x == ("__debug__" : Str)) = false := by decide)
    (he : starEach (e :: es) X.env = (false, eval e X.env) :: starEach es X.env := by rfl) (hpl : (backTo pos (starEach es X.env)).any (·.1) = false := by rfl) : PE X (.Call (.Name x p) (e :: es) [] pos) (tMake C sp [] L2.E0 t) := by
  obtain ⟨f, fd, ps, F, h1, h2, h3⟩ := c.ex
  exact pe_make h1 F (hr.mono hk) hg h2 h3 .nil L2.pass0 ha hdb he hpl
theorem pe_mk0 (c : ClI X.prog X.w X.K X.mg X.base k C x sp) (hr : Room j X.A) (hk : k + 1 ≤ j) (hg : Gl X x) (hdb : (x == ("__debug__" : Str)) = false := by decide) : PE X (.Call (.Name x p) [] [] pos) (tMake C sp [] L2.E0 tNil) := by
  obtain ⟨f, fd, ps, F, h1, h2, h3⟩ := c.ex
  exact pe_make0 h1 F (hr.mono hk) hg h2 h3 .nil L2.pass0 hdb
theorem pe_mkK0 (c : ClIK X.prog X.w X.K X.mg X.base k C x 0 ks gV sp) (hr : Room j X.A) (hk : k + 1 ≤ j) (hg : Gl X x) (hkw : PK X kws tk) (hall : (backToKw pos (keywordEach kws X.env)).all (·.1.isSome) = true := by rfl)
    (hks : (backToKw pos (keywordEach kws X.env)).filterMap (·.1) = ks := by rfl) (hdb : (x == ("__debug__" : Str)) = false := by decide)
    (hpl : ((backTo pos (starEach [] X.env)).any (·.1) || (backToKw pos (keywordEach kws X.env)).any (·.1.isNone)) = false := by rfl) : PE X (.Call (.Name x p) [] kws pos) (tMakeK C 0 ks.length sp gV L2.E0 tNil tk) := by
  obtain ⟨f, fd, ps, g, F, h1, h2, h3⟩ := c.ex
  exact pe_makeK0 h1 F (hr.mono hk) hg h2 h3 L2.pass0 hkw hall hks hdb hpl
theorem pe_mkK (c : ClIK X.prog X.w X.K X.mg X.base k C x n ks gV sp) (hr : Room j X.A) (hk : k + 1 ≤ j) (hg : Gl X x) (ha : PA X (e :: es) t) (hkw : PK X kws tk) (hall : (backToKw pos (keywordEach kws X.env)).all (·.1.isSome) = true := by rfl)
    (hks : (backToKw pos (keywordEach kws X.env)).filterMap (·.1) = ks := by rfl) (hdb : (x == ("__debug__" : Str)) = false := by decide)
    (he : starEach (e :: es) X.env = (false, eval e X.env) :: starEach es X.env := by rfl) (hpl : ((backTo pos (starEach (e :: es) X.env)).any (·.1) || (backToKw pos (keywordEach kws X.env)).any (·.1.isNone)) = false := by rfl) :
    PE X (.Call (.Name x p) (e :: es) kws pos) (tMakeK C n ks.length sp gV L2.E0 t tk) := by
  obtain ⟨f, fd, ps, g, F, h1, h2, h3⟩ := c.ex
  exact pe_makeK h1 F (hr.mono hk) hg h2 h3 L2.pass0 ha hkw hall hks hdb he hpl
theorem pe_mt {pl : Sem Bool} (c : ClM X.prog X.w X.K X.mg X.base k C m sp) (cl : Cls X.K C) (hr : Room j X.A) (hk : k ≤ j) (he : PE X o ta) (ha : PA X (e :: es) t)
    (hst : starEach (e :: es) X.env = (false, eval e X.env) :: starEach es X.env := by rfl) (hpl : (backTo pos (starEach es X.env)).any (·.1) = false := by rfl)
    (ht : eval (.Call (.Attribute o m apos) (e :: es) [] pos) X.env = (do
      let ov ← eval o X.env
      standAt apos.atName
      let (f, first) ← holding [ov] (getMethod ov m pl)
      callWith pos f first (backTo pos (starEach (e :: es) X.env)) (backToKw pos (keywordEach [] X.env))) := by rfl) :
    PE X (.Call (.Attribute o m apos) (e :: es) [] pos) (tMeth C m sp [] L2.E0 ta t) := by
  obtain ⟨f, fd, ps, F, h1, h2⟩ := c.ex
  exact pe_meth he cl h1 F (hr.mono hk) h2 .nil L2.pass0 ha hst hpl ht
theorem pe_mt0 {pl : Sem Bool} (c : ClM X.prog X.w X.K X.mg X.base k C m sp) (cl : Cls X.K C) (hr : Room j X.A) (hk : k ≤ j) (he : PE X o ta)
    (ht : eval (.Call (.Attribute o m apos) [] [] pos) X.env = (do
      let ov ← eval o X.env
      standAt apos.atName
      let (f, first) ← holding [ov] (getMethod ov m pl)
      callWith pos f first (backTo pos (starEach [] X.env)) (backToKw pos (keywordEach [] X.env))) := by rfl) :
    PE X (.Call (.Attribute o m apos) [] [] pos) (tMeth C m sp [] L2.E0 ta tNil) := by
  obtain ⟨f, fd, ps, F, h1, h2⟩ := c.ex
  exact pe_meth0 he cl h1 F (hr.mono hk) h2 .nil L2.pass0 ht

/-! ### ==, !=, -x, bool(x) by the class's own defs -/
/-- of the class at C, or of a built-in type -/
def TyN (K : PySem.W.Frag) (C : Addr) (H : Hp) (y : V) : Prop := (∃ b dy gs, y = .ref b ∧ H b = some (.ins C dy gs)) ∨ ∃ T, TyX K H y (.type T) ∧ Po.NoRef T
theorem TyN.looks {K : PySem.W.Frag} {pins : List (Addr × Obj)} {σ : L2.St} {H : Hp} {s : Shared} {y : V} {u : Value} (hK : X.K = K) (I : Inv X pins σ H s) (r : RelV y u) (h : TyN K C H y) :
    ∃ tb, PySem.W.Looks (model X.prog X.w) s.heap (typeOf u) tb ∧ PySem.W.notFirst K C tb = true := by
  subst hK
  rcases h with ⟨b, dy, gs, rfl, hb⟩ | ⟨T, ty, nr⟩
  · cases r
    obtain ⟨mA, J, _⟩ := ins_get I.hok hb
    obtain ⟨od, J, _⟩ := J.look
    exact ⟨.ref C, J.type, by simp [PySem.W.notFirst]⟩
  · obtain ⟨P, Z, p, _⟩ := kit_of I r ty
    refine ⟨.type T, Z.ty _ _ I.kIn p, ?_⟩
    unfold PySem.W.notFirst
    rw [nr.sub X.K C]
    simp
def rEqO (K : PySem.W.Frag) (C : Addr) (sp : Sp) : R2 := fun x y H Q => ∃ a dx fs, x = .ref a ∧ H a = some (.ins C dx fs) ∧ TyN K C H y ∧ sp [x, y] H (fun v H' => ∃ b, v = .bl b ∧ Q v H') L2.E0
theorem opEqO (c : ClM X.prog X.w X.K X.mg X.base k C "__eq__" sp) (hr : Room j X.A) (hk : k ≤ j) : OpR X (compareOp .Eq) (rEqO X.K C sp) := by
  intro pins s σ H x y v u Q I rx ry h
  obtain ⟨a, dx, fs, rfl, ha, ty, q⟩ := h
  obtain rfl : v = Value.ref a := rx
  obtain ⟨f, fd, ps, F, hm, hb⟩ := c.ex
  obtain ⟨mA, J, _⟩ := ins_get I.hok ha
  obtain ⟨od, J, _⟩ := J.look
  obtain ⟨tb, hl, hn⟩ := ty.looks rfl I ry
  obtain ⟨m, hF⟩ := I.fr
  refine PySem.W.cmp_K (op := .Eq) (tb := tb) hr.units0 hF I.ok.mod.kin J hl hn hm.at_ hm.fn ?_
  refine thn (run_fn (us := [.ref a, u]) (vs := [.ref a, y]) F (hr.mono hk) hb .nil L2.pass0 I (.cons rfl (.cons ry .nil)) q) fun z s1 ⟨zv, H1, I1, rz, b, e, q1⟩ => ?_
  subst e
  cases rz
  exact ⟨.bl b, H1, I1, rfl, q1⟩
def rEqRf (K : PySem.W.Frag) (C : Addr) (sp : Sp) : R2 := fun y x H Q => ∃ a dx fs, x = .ref a ∧ H a = some (.ins C dx fs) ∧ (y = .non ∨ (∃ i, y = .int i) ∨ (∃ b, y = .bl b) ∨ (∃ z, y = .str z) ∨ ∃ t xs, y = .ref t ∧ SqT K H t xs) ∧ sp [x, y] H (fun v H' => ∃ b, v = .bl b ∧ Q v H') L2.E0
theorem opEqRf (kd : Po.Kd X.K C) (hN : PySem.W.mroIn X.K C (.type "NoneType") = some false) (hi : PySem.W.mroIn X.K C (.type "int") = some false) (hb' : PySem.W.mroIn X.K C (.type "bool") = some false) (hs' : PySem.W.mroIn X.K C (.type "str") = some false)
    (c : ClM X.prog X.w X.K X.mg X.base k C "__eq__" sp) (hr : Room j X.A) (hk : k ≤ j) : OpR X (compareOp .Eq) (rEqRf X.K C sp) := by
  intro pins s σ H y x u v Q I ry rx h
  obtain ⟨a, dx, fs, rfl, ha, hy, q⟩ := h
  obtain rfl : v = Value.ref a := rx
  obtain ⟨f, fd, ps, F, hm, hb⟩ := c.ex
  obtain ⟨mA, J0, _⟩ := ins_get I.hok ha
  obtain ⟨od, J, _⟩ := J0.look
  have fin : wpAny (model X.prog X.w) X.A (call (.ref f) [.ref a, u]) (PySem.W.CmpBack (EP X pins σ Q)) X.xe s := by
    refine thn (run_fn (us := [.ref a, u]) (vs := [.ref a, y]) F (hr.mono hk) hb .nil L2.pass0 I (.cons rfl (.cons ry .nil)) q) fun z s1 ⟨zv, H1, I1, rz, b, e, q1⟩ => ?_
    subst e
    cases rz
    exact ⟨.bl b, H1, I1, rfl, q1⟩
  show wpAny _ _ (richCompare .Eq u (.ref a)) _ _ _
  rcases hy with rfl | ⟨i, rfl⟩ | ⟨i, rfl⟩ | ⟨i, rfl⟩ | ⟨t, xs, rfl, ht⟩
  · cases ry
    exact Po.rc_refl hr.units0 I.kIn J hN (show s.TypeIs .none "NoneType" from rfl) rfl Po.dec_none hm.at_ hm.fn fin
  · obtain ⟨tk, rfl⟩ := ry
    exact Po.rc_refl hr.units0 I.kIn J hi (typeIs_int s i tk) rfl (Po.dec_int J.at_) hm.at_ hm.fn fin
  · cases ry
    exact Po.rc_refl hr.units0 I.kIn J hb' (show s.TypeIs (.bool i) "bool" from rfl) rfl (Po.dec_bool J.at_) hm.at_ hm.fn fin
  · obtain ⟨tk, rfl⟩ := ry
    exact Po.rc_refl hr.units0 I.kIn J hs' (typeIs_str s i tk) rfl (Po.dec_str J.at_) hm.at_ hm.fn fin
  · cases ry
    obtain ⟨its, rv, p, hz⟩ := I.tuple ht
    exact Po.rc_refl hr.units0 I.kIn J kd.hmt p.typeIs rfl (Po.dec_tuple p.typeIs I.kIn J kd.hmt) hm.at_ hm.fn fin
def rNeO (K : PySem.W.Frag) (C : Addr) (sp : Sp) : R2 := fun x y H Q => ∃ a dx fs, x = .ref a ∧ H a = some (.ins C dx fs) ∧ TyN K C H y ∧ sp [x, y] H (fun v H' => ∃ b, v = .bl b ∧ Q (.bl (!b)) H') L2.E0
theorem opNeO (kd : Po.Kd X.K C) (c : ClM X.prog X.w X.K X.mg X.base k C "__eq__" sp) (hr : Room j X.A) (hk : k + 1 ≤ j) : OpR X (compareOp .NotEq) (rNeO X.K C sp) := by
  intro pins s σ H x y v u Q I rx ry h
  obtain ⟨a, dx, fs, rfl, ha, ty, q⟩ := h
  obtain rfl : v = Value.ref a := rx
  obtain ⟨f, fd, ps, F, hm, hb⟩ := c.ex
  obtain ⟨mA, J, _⟩ := ins_get I.hok ha
  obtain ⟨od, J, _⟩ := J.look
  obtain ⟨tb, hl, hn⟩ := ty.looks rfl I ry
  have hun := hr.units
  refine Po.rc_ne (tb := tb) (by omega) I.kIn J hl hn kd hm.at_ hm.fn ?_
  have e0 : Env0 X.prog X.w X.K X.mg X.base X.A.in1 X.stack s H := I.env0.in1
  have r2 : Vals [V.ref a, y] [Value.ref a, u] := .cons rfl (.cons ry .nil)
  have hln := F.len _ _ _ _ q
  have bb := hb s [.ref a, u] I.kIn (by simpa using hln)
  refine wpAny_call (codeAny_mono (F.run X.A.in1 X.stack s H ⟨[.ref a, u], []⟩ [.ref a, u] [.ref a, y] _ L2.E0 (hr.mono hk).in1 e0 (by simpa using bb) r2 q) fun r s' hq => ?_)
  match r, hq with
  | .error _, hq => exact False.elim hq
  | .ok .next, hq => exact False.elim hq
  | .ok .brk, hq => exact False.elim hq
  | .ok .cont, hq => exact False.elim hq
  | .ok (.ret w), hq =>
    obtain ⟨z, H', I', rz, b, e, q1⟩ := I.after hq
    subst e
    cases rz
    exact ⟨b, rfl, .bl (!b), H', I', rfl, q1⟩
def rNegO (C : Addr) (sp : Sp) : V → Hp → VK → Prop := fun x H Q => ∃ a dx fs, x = .ref a ∧ H a = some (.ins C dx fs) ∧ sp [x] H Q L2.E0
theorem un_negO (c : ClM X.prog X.w X.K X.mg X.base k C "__neg__" sp) (hr : Room j X.A) (hk : k ≤ j) : UnR X (unaryOp .USub) (rNegO C sp) := by
  intro pins s σ H x v Q I rx h
  obtain ⟨a, dx, fs, rfl, ha, q⟩ := h
  obtain rfl : v = Value.ref a := rx
  obtain ⟨f, fd, ps, F, hm, hb⟩ := c.ex
  obtain ⟨mA, J, _⟩ := ins_get I.hok ha
  obtain ⟨od, J, _⟩ := J.look
  obtain ⟨m, hF⟩ := I.fr
  refine PySem.W.ksp_neg hF I.ok.mod.kin J hm.at_ hm.fn ?_
  exact run_fn (us := [.ref a]) (vs := [.ref a]) F (hr.mono hk) hb .nil L2.pass0 I (.cons rfl .nil) q
end
/-! bool(x) of an object without __bool__ and __len__ -/
theorem truthy0 {M : Model} {A : Around} {E : Value → Shared → Prop} {s : Shared} {K : PySem.W.Frag} {x C : Addr} {ox : Obj} {od : Option Obj} {Q : Bool → Shared → Prop} (X : K.In s.heap) (I : PySem.W.InstAt s.heap x ox C od)
    (hs : PySem.W.findIn K (.ref C) "__bool__" = some none) (hl : PySem.W.findIn K (.ref C) "__len__" = some none) (h : Q true s) : wpAny M A (truthy (.ref x)) Q E s := by
  unfold truthy
  refine wpAny_bind (m := callSpecial? (.ref x) (Str.ofString "__bool__")) (wpAny_bind (wpAny_bind (I.type.here ((PySem.W.looks_findIn X hs).here (wpAny_pure ?_)))))
  refine wpAny_bind (wpAny_bind (I.type.here ((PySem.W.looks_findIn X hl).here ?_)))
  exact wpAny_pure h
theorem meets_bool_obj {K : PySem.W.Frag} {x C : Addr} {ox : Obj} {od : Option Obj} (hs' : PySem.W.findIn K (.ref C) "__bool__" = some none) (hl' : PySem.W.findIn K (.ref C) "__len__" = some none) :
    Meets (Builtin.«bool.__new__» ⟨[.type "bool", .ref x], []⟩) (fun _ R s => (K.In s.heap ∧ PySem.W.InstAt s.heap x ox C od) ∧ R (.ok (.ret (.bool true))) s) :=
  Meets.of_wp fun prog w A R s hs => by
    obtain ⟨⟨hX, hI⟩, hs⟩ := hs
    obtain ⟨hp, g, d, tk, os⟩ := s
    have f1 := F.conv_sub_bool
    repeat (any_goals (first | assumption | (with_reducible refine truthy0 hX hI hs' hl' ?_) | wp_step))
    all_goals first | exact ⟨_, rfl, hs⟩ | exact hs | skip
def rBoolO (C : Addr) : List V → Hp → VK → Prop := fun xs H Q => ∃ a dx fs, xs = [.ref a] ∧ H a = some (.ins C dx fs) ∧ Q (.bl true) H
theorem callBoolO {X : Cx} {C : Addr} (hs : PySem.W.findIn X.K (.ref C) "__bool__" = some none) (hl : PySem.W.findIn X.K (.ref C) "__len__" = some none) : CallR X (.type "bool") (rBoolO C) := by
  intro pins s σ H xs us Q I r h
  obtain ⟨a, dx, fs, rfl, ha, q⟩ := h
  obtain ⟨u, rfl, ru⟩ := vals1 r
  obtain rfl : u = Value.ref a := ru
  obtain ⟨mA, J, _⟩ := ins_get I.hok ha
  obtain ⟨od, J, _⟩ := J.look
  exact call_bool_1 (meets_bool_obj (K := X.K) hs hl) ⟨⟨I.kIn, J⟩, rfl, .bl true, H, I, rfl, q⟩
end Pd

set_option Elab.async false
set_option linter.all false
set_option maxRecDepth 100000
set_option maxHeartbeats 2000000
namespace Pd
open PySem PySem.Spec PyProof.Rows L2
/-! ### fields -/
def putD (f : Str) (v : Dt) : List (Str × Dt) → List (Str × Dt)
  | [] => [(f, v)]
  | (g, x) :: r => if g = f then (g, v) :: r else (g, x) :: putD f v r
theorem DrFs.put {K : PySem.W.Frag} {G : Hp} {f : Str} {v : V} {d : Dt} (r : Dr K G v d) : ∀ {fs : List (Str × V)} {ds : List (Str × Dt)}, DrFs K G fs ds → DrFs K G (putF f v fs) (putD f d ds)
  | _, _, .nil => .cons r .nil
  | _, _, .cons (f := g) h t => by
    unfold putF putD
    by_cases q : g = f
    · rw [if_pos q, if_pos q]
      exact .cons r t
    · rw [if_neg q, if_neg q]
      exact .cons h (DrFs.put r t)
theorem DrFs.length {K : PySem.W.Frag} {G : Hp} : ∀ {fs : List (Str × V)} {ds : List (Str × Dt)}, DrFs K G fs ds → fs.length = ds.length
  | _, _, .nil => rfl
  | _, _, .cons _ t => by rw [List.length_cons, List.length_cons, DrFs.length t]
section
variable {Γ : Cn} {δ : List Sl} {ta tv te : TE} {P : Dt → Prop} {f : Str} {C : Sf} {D : De}
theorem ed_fld (h : ED Γ ta δ fun d => ∃ C fs x, d = .obj C fs ∧ Cls Γ.W.K C ∧ NoAttr Γ.W.K C f ∧ fs.lookup f = some x ∧ P x) : ED Γ (tFld Γ.W.K ta f) δ P := fun G H σ Q at_ k =>
  h G H σ _ at_ fun v d G1 H1 f1 g1 d1 ⟨C, fs, x, e, c, n, l, p⟩ => by
    subst e
    cases d1 with
    | @obj a _ dx vs _ h1 h2 h3 =>
      obtain ⟨v, hv, rv⟩ := h3.look l
      exact ⟨a, C, dx, vs, v, rfl, g1.sub _ _ h1, c, n, hv, k v x G1 H1 f1 g1 rv p⟩
/-- self.f = v in __init__ -/
theorem sd_fld {i : Nat} {fs : List (Str × Dt)} (hi : δ[i]? = some (.slf C fs)) (hl : fs.length < 1000) (c : Cls Γ.W.K C.C) (n : NoAttr Γ.W.K C.C f) (h : ED Γ tv δ fun d => D.nx (δ.set i (.slf C (putD f d fs)))) : SD Γ (sFld Γ.W.K (tVar i) tv f) δ D := fun G H σ E at_ hn hr hb hc =>
  h G H σ _ at_ fun v d G1 H1 f1 g1 d1 p => by
    have at1 := at_.step f1 g1
    obtain ⟨a, dx, vs, h1, h2, h3, h4, h5, h6, h7, h8, h9, h10⟩ := at1.env.slf i C fs hi
    have hax : dx ≠ a := fun z => by rw [z, h2] at h3; cases h3
    have hlen : i < δ.length := (List.getElem?_eq_some_iff.mp hi).1
    refine ⟨.ref a, h1, a, C.C, dx, vs, rfl, h2, c, n, by rw [h10.length]; exact hl, ?_⟩
    refine hn _ G1 _ σ f1.g ⟨⟨at1.fr.g, fun b u e gb => ?_⟩, at1.gd.setM h4 h8, ?_⟩ p
    · obtain ⟨k1, k2⟩ := at1.fr.o b u e gb
      refine ⟨k1, fun hm => ?_⟩
      have hb : b ≠ a := fun z => by rw [z, h6] at e; cases e
      rw [upd_ne hb]
      exact k2 hm
    · exact {
        len := by rw [List.length_set]; exact at1.env.len
        dat := fun j d' hj => by
          rw [set_get] at hj
          by_cases q : i = j
          · rw [if_pos q, if_pos hlen] at hj
            cases hj
          · rw [if_neg q] at hj
            exact at1.env.dat j d' hj
        mu := fun j ds hj => by
          rw [set_get] at hj
          by_cases q : i = j
          · rw [if_pos q, if_pos hlen] at hj
            cases hj
          · rw [if_neg q] at hj
            obtain ⟨b, ys, k1, k2, k3, k4, k5, k6⟩ := at1.env.mu j ds hj
            have hb : b ≠ a := fun z => by rw [z, h2] at k2; cases k2
            exact ⟨b, ys, k1, by rw [upd_ne hb]; exact k2, k3, k4, k5, k6⟩
        slf := fun j C' fds hj => by
          rw [set_get] at hj
          by_cases q : i = j
          · rw [if_pos q, if_pos hlen] at hj
            cases hj
            subst q
            exact ⟨a, dx, _, h1, upd_same, by rw [upd_ne hax]; exact h3, h4, h5, h6, h7, h8, h9, h10.put d1⟩
          · rw [if_neg q] at hj
            obtain ⟨b, db, ys, k1, k2, k3, k4, k5, k6, k7, k8, k9, k10⟩ := at1.env.slf j C' fds hj
            have hb : b ≠ a := fun z => at1.env.sep i j a _ _ q hi hj rfl rfl h1 (z ▸ k1)
            have hb2 : db ≠ a := fun z => by rw [z, h2] at k3; cases k3
            exact ⟨b, db, ys, k1, by rw [upd_ne hb]; exact k2, by rw [upd_ne hb2]; exact k3, k4, k5, k6, k7, k8, k9, k10⟩
        sep := fun j k b s t hjk hj hk so to z => by
          rw [set_get] at hj hk
          have hj' : ∃ s', δ[j]? = some s' ∧ s'.own = true := by
            by_cases q : i = j
            · exact ⟨_, q ▸ hi, rfl⟩
            · rw [if_neg q] at hj
              exact ⟨_, hj, so⟩
          have hk' : ∃ s', δ[k]? = some s' ∧ s'.own = true := by
            by_cases q : i = k
            · exact ⟨_, q ▸ hi, rfl⟩
            · rw [if_neg q] at hk
              exact ⟨_, hk, to⟩
          obtain ⟨s', e1, e2⟩ := hj'
          obtain ⟨t', e3, e4⟩ := hk'
          exact at1.env.sep j k b s' t' hjk e1 e3 e2 e4 z }
end

/-! ### __init__ -/
def spI (K : PySem.W.Frag) (C : Addr) (n : Nat) (Pre : Wo → List Dt → Prop) (R : List Dt → List (Str × Dt) → Prop) : Sp := fun vs H Q _ => vs.length = n + 1 ∧ ∃ W ds G H1 x dx us, vs = .ref x :: us ∧ W.K = K ∧ H = upd (upd H1 dx (.own x)) x (.ins C dx []) ∧ H1 x = none ∧ H1 dx = none ∧ dx ≠ x ∧
  Good W G H1 ∧ DrAll K G us ds ∧ Pre W ds ∧ ∀ G' H' fs fds, Fr W G H1 G' H' → Good W G' H' → H' x = some (.ins C dx fs) → H' dx = some (.own x) → G' x = none → G' dx = none → DrFs K G' fs fds → R ds fds → Q .non H'
def slotsI (C : Sf) (n : Nat) (ds : List Dt) : List Sl := .slf C [] :: (ds.map .dat ++ List.replicate (n - (ds.length + 1)) .un)
theorem at_startI {W : Wo} {G H1 : Hp} {x dx C : Addr} {N : List Str} {us : List V} {ds : List Dt} (g : Good W G H1) (hx : H1 x = none) (hd : H1 dx = none) (hne : dx ≠ x) (r : DrAll W.K G us ds) :
    At (cn0 W G H1) (slotsI ⟨x, dx, C⟩ N.length ds) G (upd (upd H1 dx (.own x)) x (.ins C dx [])) (L2.start N (.ref x :: us)) := by
  have hl := r.length
  have g1 : Good W G (upd H1 dx (.own x)) := g.setM (g.gn hd) (g.nm hd)
  have hx1 : (upd H1 dx (.own x)) x = none := by rw [upd_ne hne.symm]; exact hx
  have g2 : Good W G (upd (upd H1 dx (.own x)) x (.ins C dx [])) := g1.setM (g.gn hx) (g.nm hx)
  have key : ∀ (i : Nat) (s : Sl), (slotsI ⟨x, dx, C⟩ N.length ds)[i]? = some s → s ≠ .un → (i = 0 ∧ s = .slf ⟨x, dx, C⟩ []) ∨ ∃ j d, i = j + 1 ∧ ds[j]? = some d ∧ s = .dat d := by
    intro i s h hs
    unfold slotsI at h
    cases i with
    | zero => exact .inl ⟨rfl, (Option.some.inj h).symm⟩
    | succ i =>
      right
      rw [List.getElem?_cons_succ] at h
      by_cases hi : i < (ds.map Sl.dat).length
      · rw [List.getElem?_append_left hi, List.getElem?_map] at h
        cases q : ds[i]? with
        | none => rw [q] at h; cases h
        | some d =>
          rw [q] at h
          exact ⟨i, d, rfl, q, (Option.some.inj h).symm⟩
      · rw [List.getElem?_append_right (by omega), List.getElem?_replicate] at h
        split at h
        · cases h
          exact absurd rfl hs
        · cases h
  have st0 : (L2.start N (.ref x :: us))[0]? = some (some (.ref x)) := rfl
  refine ⟨(Fr.newM g hd).trans (Fr.newM g1 hx1) g2, g2, ⟨?_, ?_, ?_, ?_, ?_⟩⟩
  · unfold L2.start slotsI
    simp only [List.map_cons, List.cons_append, List.length_cons, List.length_append, List.length_map, List.length_replicate, hl]
  · intro i d h
    rcases key i _ h (by intro z; cases z) with ⟨_, e⟩ | ⟨j, d', rfl, hd', e⟩
    · cases e
    · cases e
      obtain ⟨v, hv, rr⟩ := r.getD hd'
      refine ⟨v, ?_, rr⟩
      unfold L2.start
      rw [List.map_cons, List.cons_append, List.getElem?_cons_succ, List.getElem?_append_left (by rw [List.length_map]; exact (List.getElem?_eq_some_iff.mp hv).1), List.getElem?_map, hv]
      rfl
  · intro i ds' h
    rcases key i _ h (by intro z; cases z) with ⟨_, e⟩ | ⟨j, d', rfl, hd', e⟩
    · cases e
    · cases e
  · intro i C' fds h
    rcases key i _ h (by intro z; cases z) with ⟨rfl, e⟩ | ⟨j, d', rfl, hd', e⟩
    · cases e
      exact ⟨x, dx, [], st0, upd_same, by rw [upd_ne hne]; exact upd_same, g.gn hx, g.gn hd, hx, ⟨hd, rfl, rfl⟩, g.nm hx, g.nm hd, .nil⟩
    · cases e
  · intro i j a s t hij hs ht so to z
    rcases key i _ hs (by intro z; rw [z] at so; cases so) with ⟨rfl, e⟩ | ⟨j', d', rfl, hd', e⟩
    · rcases key j _ ht (by intro z; rw [z] at to; cases to) with ⟨rfl, e⟩ | ⟨j', d', rfl, hd', e⟩
      · exact absurd rfl hij
      · rw [e] at to; cases to
    · rw [e] at so; cases so
/-- from __init__'s body to its promise: at the end slot 0 holds the fields -/
theorem body_ofI {K : PySem.W.Frag} {C : Addr} {n : Nat} {Pre : Wo → List Dt → Prop} {R : List Dt → List (Str × Dt) → Prop} {N : List Str} {t : TS} {vs : List V} {H : Hp} {Q : VK} {E : XK}
    (h : ∀ (Γ : Cn) ds (S : Sf), S.C = C → Γ.W.K = K → ds.length = n → Pre Γ.W ds → SD Γ t (slotsI S N.length ds) { nx := fun δ' => ∃ fds, δ'[0]? = some (.slf S fds) ∧ R ds fds, rt := fun _ => False }) (hs : spI K C n Pre R vs H Q E) :
    t { nx := fun _ H' => Q .non H', rt := Q } (L2.start N vs) H := by
  obtain ⟨hl, W, ds, G, H1, x, dx, us, rfl, rfl, rfl, hx, hd, hne, g, r, p, k⟩ := hs
  have hlen : ds.length = n := by
    rw [← r.length]
    simpa using hl
  refine h (cn0 W G H1) ds ⟨x, dx, C⟩ rfl rfl hlen p G _ (L2.start N (.ref x :: us)) _ (at_startI g hx hd hne r) ?_ ?_ ?_ ?_
  · intro δ' G' H' σ' e a ⟨fds, hf, q⟩
    obtain ⟨a0, dx0, fs, h1, h2, h3, h4, h5, h6, ⟨h7, e1, e2⟩, h8, h9, h10⟩ := a.env.slf 0 _ fds hf
    have e1 : a0 = x := e1
    have e2 : dx0 = dx := e2
    subst e1 e2
    exact k G' H' fs fds a.fr a.gd h2 h3 h4 h5 h10 q
  · intro v d G' H' f g' rr q
    exact q.elim
  · intro δ' G' H' σ' e a q
    exact q.elim
  · intro δ' G' H' σ' e a q
    exact q.elim
/-! ### C(..) -/
theorem made_ok {W : Wo} {G H1 G' H' : Hp} {x dx C : Addr} {fs : List (Str × V)} {fds : List (Str × Dt)} (g0 : Good W G H1) (hx : H1 x = none) (hd : H1 dx = none) (hne : dx ≠ x) (f : Fr W G H1 G' H') (g : Good W G' H') (h1 : H' x = some (.ins C dx fs)) (h2 : H' dx = some (.own x)) (h3 : G' x = none) (h4 : G' dx = none) (r : DrFs W.K G' fs fds) :
    ∃ G2, Fr W G H1 G2 H' ∧ Good W G2 H' ∧ Dr W.K G2 (.ref x) (.obj C fds) := by
  have hd3 : (upd G' x (.ins C dx fs)) dx = none := by rw [upd_ne hne]; exact h4
  have s1 : Same G' (upd (upd G' x (.ins C dx fs)) dx (.own x)) := (same_new h3).trans (same_new hd3)
  refine ⟨upd (upd G' x (.ins C dx fs)) dx (.own x), ⟨f.g.trans s1, fun b u e gb => ?_⟩, ⟨fun b u e => ?_, fun b e => ?_⟩, ?_⟩
  · rw [upd_ne (ne_of_none e hd), upd_ne (ne_of_none e hx)]
    exact f.o b u e gb
  · by_cases q : b = dx
    · subst q
      rw [upd_same] at e
      cases e
      exact h2
    · rw [upd_ne q] at e
      by_cases q2 : b = x
      · subst q2
        rw [upd_same] at e
        cases e
        exact h1
      · rw [upd_ne q2] at e
        exact g.sub b u e
  · obtain ⟨k1, o, k2, k3⟩ := g.st b e
    have nb1 : b ≠ dx := fun q => g0.nm hd (q ▸ e)
    have nb2 : b ≠ x := fun q => g0.nm hx (q ▸ e)
    rw [upd_ne nb1, upd_ne nb2]
    exact ⟨k1, o, k2, k3⟩
  · exact .obj (by rw [upd_ne hne.symm]; exact upd_same) upd_same (r.mono s1)
section
variable {Γ : Cn} {δ : List Sl} {P : Dt → Prop} {C : Addr} {n : Nat} {Pre : Wo → List Dt → Prop} {E : XK} {t tk : TA}
theorem ed_make {R : List Dt → List (Str × Dt) → Prop} (h : AD Γ t δ fun ds => ds.length = n ∧ Pre Γ.W ds ∧ ∀ fds, R ds fds → P (.obj C fds)) : ED Γ (tMake C (spI Γ.W.K C n Pre R) [] E t) δ P := fun G H σ Q at_ k =>
  h G H σ _ at_ fun vs ds G1 H1 f1 g1 d1 ⟨hl, p1, p2⟩ => by
    intro x dx hx hd hne
    rw [List.append_nil]
    refine ⟨by rw [List.length_cons, d1.length, hl], Γ.W, ds, G1, H1, x, dx, vs, rfl, rfl, rfl, hx, hd, hne, g1, d1, p1, fun G' H' fs fds f g h1 h2 h3 h4 r q => ⟨rfl, ?_⟩⟩
    obtain ⟨G2, f2, g2, r2⟩ := made_ok g1 hx hd hne f g h1 h2 h3 h4 r
    exact k _ _ G2 H' (f1.trans f2 g2) g2 r2 (p2 fds q)
/-- with keywords: gV puts the values (defaults among them) in their order; gD does so with data -/
theorem ed_makeK {R : List Dt → List (Str × Dt) → Prop} {n1 m : Nat} {gV : List V → List V → List V} {gD : List Dt → List Dt → List Dt} (hg : ∀ x vs zs, ∃ us, gV (.ref x :: vs) zs = .ref x :: us ∧ ∀ G ds es, DrAll Γ.W.K G vs ds → DrAll Γ.W.K G zs es → DrAll Γ.W.K G us (gD ds es))
    (h : AD Γ t δ fun ds => AD Γ tk δ fun es => ds.length = n1 ∧ es.length = m ∧ (gD ds es).length = n ∧ Pre Γ.W (gD ds es) ∧ ∀ fds, R (gD ds es) fds → P (.obj C fds)) : ED Γ (tMakeK C n1 m (spI Γ.W.K C n Pre R) gV E t tk) δ P := fun G H σ Q at_ k =>
  h G H σ _ at_ fun vs ds G0 H0 f0 g0 d0 h2 => h2 G0 H0 σ _ (at_.step f0 g0) fun zs es G1 H1 f1 g1 d1 ⟨l1, l2, l3, p1, p2⟩ => by
    refine ⟨d0.length.trans l1, d1.length.trans l2, fun x dx hx hd hne => ?_⟩
    obtain ⟨us, eu, hu⟩ := hg x vs zs
    have du := hu G1 ds es (d0.mono f1.g) d1
    rw [eu]
    refine ⟨by rw [List.length_cons, du.length, l3], Γ.W, gD ds es, G1, H1, x, dx, us, rfl, rfl, rfl, hx, hd, hne, g1, du, p1, fun G' H' fs fds f g h1 h2 h3 h4 r q => ⟨rfl, ?_⟩⟩
    obtain ⟨G2, f2, g2, r2⟩ := made_ok g1 hx hd hne f g h1 h2 h3 h4 r
    exact k _ _ G2 H' ((f0.trans f1 g1).trans f2 g2) g2 r2 (p2 fds q)
/-! ### o.m(..) -/
theorem ed_meth {R : List Dt → Dt → Prop} {ta : TE} {m : Str} (h : ED Γ ta δ fun d => ∃ fs, d = .obj C fs ∧ fs.lookup m = none ∧ AD Γ t δ fun ds => ds.length + 1 = n ∧ Pre Γ.W (.obj C fs :: ds) ∧ ∀ r, R (.obj C fs :: ds) r → P r) : ED Γ (tMeth C m (spW Γ.W.K n Pre R) [] E ta t) δ P := fun G H σ Q at_ k =>
  h G H σ _ at_ fun v d G0 H0 f0 g0 d0 ⟨fs, e, hl, h2⟩ => by
    subst e
    cases d0 with
    | @obj a _ dx us _ h1 h3 h4 =>
      refine ⟨a, dx, us, rfl, g0.sub _ _ h1, h4.lookN hl, ?_⟩
      refine h2 G0 H0 σ _ (at_.step f0 g0) fun vs ds G1 H1 f1 g1 d1 ⟨l1, p1, p2⟩ => ?_
      rw [List.append_nil]
      have dall : DrAll Γ.W.K G1 (.ref a :: vs) (.obj C fs :: ds) := .cons ((Dr.obj h1 h3 h4).mono f1.g) d1
      exact ⟨by rw [dall.length, List.length_cons, l1], Γ.W, _, G1, rfl, g1, dall, p1, fun v d G' H' f g r q => k v d G' H' ((f0.trans f1 g1).trans f g) g r (p2 d q)⟩
end
/-! ### ==, !=, -x, bool, isinstance -/
section
variable {W : Wo} {P : Dt → Prop} {C : Addr} {Pre : Wo → List Dt → Prop} {R : List Dt → Dt → Prop} {fs : List (Str × Dt)} {y : Dt}
/-- of a built-in type -/
theorem tyD_noRef {T : String} (h : tyD y = some T) : Po.NoRef T := by
  cases y <;> first | (cases h; first | exact Po.noRef_none | exact Po.noRef_bool | exact Po.noRef_int | exact Po.noRef_str | exact Po.noRef_tuple | exact Po.noRef_list | exact Po.noRef_dict) | cases h
theorem tyN_of {G H : Hp} {v : V} (g : Good W G H) (h : Dr W.K G v y) (hy : (∃ gs, y = .obj C gs) ∨ ∃ T, tyD y = some T) : TyN W.K C H v := by
  rcases hy with ⟨gs, rfl⟩ | ⟨T, e⟩
  · cases h with
    | @obj a _ dx us _ h1 h2 h3 => exact .inl ⟨a, dx, us, rfl, g.sub _ _ h1⟩
  · exact .inr ⟨T, ty_of g (.inl h) e, tyD_noRef e⟩
theorem od_eqO (hy : (∃ gs, y = .obj C gs) ∨ ∃ T, tyD y = some T) (hp : Pre W [.obj C fs, y]) (k2 : ∀ r, R [.obj C fs, y] r → (∃ b, r = .bl b) ∧ P r) (G H : Hp) (v w : V) (Q : VK) (g : Good W G H) (hv : Dr W.K G v (.obj C fs)) (hw : Dr W.K G w y)
    (k : ∀ u d G' H', Fr W G H G' H' → Good W G' H' → Dr W.K G' u d → P d → Q u H') : rEqO W.K C (spW W.K 2 Pre R) v w H Q := by
  have hty := tyN_of g hw hy
  have hv' := hv
  cases hv with
  | @obj a _ dx us _ h1 h2 h3 =>
    refine ⟨a, dx, us, rfl, g.sub _ _ h1, hty, rfl, W, _, G, rfl, g, .cons hv' (.cons hw .nil), hp, fun v d G' H' f g' r q => ?_⟩
    obtain ⟨⟨b, e⟩, p⟩ := k2 d q
    subst e
    cases r
    exact ⟨b, rfl, k _ _ G' H' f g' (.bl b) p⟩
theorem od_neO (hy : (∃ gs, y = .obj C gs) ∨ ∃ T, tyD y = some T) (hp : Pre W [.obj C fs, y]) (k2 : ∀ r, R [.obj C fs, y] r → ∃ b, r = .bl b ∧ P (.bl (!b))) (G H : Hp) (v w : V) (Q : VK) (g : Good W G H) (hv : Dr W.K G v (.obj C fs)) (hw : Dr W.K G w y)
    (k : ∀ u d G' H', Fr W G H G' H' → Good W G' H' → Dr W.K G' u d → P d → Q u H') : rNeO W.K C (spW W.K 2 Pre R) v w H Q := by
  have hty := tyN_of g hw hy
  have hv' := hv
  cases hv with
  | @obj a _ dx us _ h1 h2 h3 =>
    refine ⟨a, dx, us, rfl, g.sub _ _ h1, hty, rfl, W, _, G, rfl, g, .cons hv' (.cons hw .nil), hp, fun v d G' H' f g' r q => ?_⟩
    obtain ⟨b, e, p⟩ := k2 d q
    subst e
    cases r
    exact ⟨b, rfl, k _ _ G' H' f g' (.bl _) p⟩
theorem od_eqRf (hy : y = .non ∨ (∃ i, y = .int i) ∨ (∃ b, y = .bl b) ∨ (∃ z, y = .str z) ∨ ∃ ds, y = .tup ds) (hp : Pre W [.obj C fs, y]) (k2 : ∀ r, R [.obj C fs, y] r → (∃ b, r = .bl b) ∧ P r) (G H : Hp) (w v : V) (Q : VK) (g : Good W G H) (hw : Dr W.K G w y) (hv : Dr W.K G v (.obj C fs))
    (k : ∀ u d G' H', Fr W G H G' H' → Good W G' H' → Dr W.K G' u d → P d → Q u H') : rEqRf W.K C (spW W.K 2 Pre R) w v H Q := by
  have hv' := hv
  have hw' : w = .non ∨ (∃ i, w = .int i) ∨ (∃ b, w = .bl b) ∨ (∃ z, w = .str z) ∨ ∃ t xs, w = .ref t ∧ SqT W.K H t xs := by
    rcases hy with rfl | ⟨i, rfl⟩ | ⟨b, rfl⟩ | ⟨z, rfl⟩ | ⟨ds, rfl⟩
    · cases hw; exact .inl rfl
    · cases hw; exact .inr (.inl ⟨i, rfl⟩)
    · cases hw; exact .inr (.inr (.inl ⟨b, rfl⟩))
    · cases hw; exact .inr (.inr (.inr (.inl ⟨z, rfl⟩)))
    · cases hw with
      | tup h1 h2 => exact .inr (.inr (.inr (.inr ⟨_, _, rfl, sqT_mono g.sub h1⟩)))
  cases hv with
  | @obj a _ dx us _ h1 h2 h3 =>
    refine ⟨a, dx, us, rfl, g.sub _ _ h1, hw', rfl, W, _, G, rfl, g, .cons hv' (.cons hw .nil), hp, fun v d G' H' f g' r q => ?_⟩
    obtain ⟨⟨b, e⟩, p⟩ := k2 d q
    subst e
    cases r
    exact ⟨b, rfl, k _ _ G' H' f g' (.bl b) p⟩
theorem Dv.drO {G H : Hp} {v : V} (h : Dv W G H v (.obj C fs)) : Dr W.K G v (.obj C fs) := by
  rcases h with h | ⟨a, xs, ds, h1, h2, _⟩
  · exact h
  · cases h2
theorem ed_negO {Γ : Cn} {δ : List Sl} {ta : TE} (h : ED Γ ta δ fun d => ∃ fs, d = .obj C fs ∧ Pre Γ.W [.obj C fs] ∧ ∀ r, R [.obj C fs] r → P r) : ED Γ (tUn (rNegO C (spW Γ.W.K 1 Pre R)) ta) δ P := fun G H σ Q at_ k =>
  h G H σ _ at_ fun v d G1 H1 f1 g1 d1 ⟨fs, e, p, p2⟩ => by
    subst e
    have d1' := d1
    cases d1 with
    | @obj a _ dx us _ h1 h2 h3 =>
      exact ⟨a, dx, us, rfl, g1.sub _ _ h1, rfl, Γ.W, _, G1, rfl, g1, .cons d1' .nil, p, fun v d G' H' f g r q => k v d G' H' (f1.trans f g) g r (p2 d q)⟩
theorem cd_boolO (p : P (.bl true)) : CD W (rBoolO C) [.obj C fs] P := fun G H vs Q g hv k => by
  cases hv with
  | cons r rr =>
    cases rr
    cases r.drO with
    | @obj a _ dx us _ h1 h2 h3 => exact ⟨a, dx, us, rfl, g.sub _ _ h1, k _ _ G H (Fr.refl _ _ _) g (.bl true) p⟩
/-- isinstance(x, C), x of a built-in type -/
theorem cd_isiN {T : String} (kd : Po.Kd W.K C) (ht : tyD y = some T) (p : P (.bl false)) : CD W (rIsi W.K) [y, .raw (.ref C)] P := cd_of (fun G H vs Q g hv k => by
  obtain ⟨v, w, rfl, r, r2⟩ := dv2 hv
  cases r2.raw
  refine ⟨v, .ref C, .type T, .ref C, false, rfl, .own C, ty_of g r ht, ?_, k _ (.bl _)⟩
  unfold PySem.W.kitOne PySem.W.kitCls
  rw [if_neg (by simp)]
  simp only [kd.kc, if_true]
  exact (tyD_noRef ht).sub W.K C) p
/-- isinstance(x, C), x of the class at C -/
theorem cd_isiO (kd : Po.Kd W.K C) (p : P (.bl true)) : CD W (rIsi W.K) [.obj C fs, .raw (.ref C)] P := cd_of (fun G H vs Q g hv k => by
  obtain ⟨v, w, rfl, r, r2⟩ := dv2 hv
  cases r2.raw
  cases r.drO with
  | @obj a _ dx us _ h1 h2 h3 =>
    refine ⟨.ref a, .ref C, .ref C, .ref C, true, rfl, .own C, .base (.ins (g.sub _ _ h1) kd.cl kd.ha kd.hn kd.htk kd.hm), ?_, k _ (.bl _)⟩
    unfold PySem.W.kitOne
    rw [if_pos (by simp)]) p
end
end Pd

set_option Elab.async false
set_option linter.all false
set_option maxRecDepth 100000
set_option maxHeartbeats 2000000
namespace Pd
open PySem PySem.Spec PyProof.Rows L2
/-! ### own lists: xs[i] = v, ys.append(xs.pop(i)) -/
section
variable {Γ : Cn} {δ : List Sl} {te ti : TE} {D : De} {i j : Nat} {ds es : List Dt}
theorem sd_setM (hi : δ[i]? = some (.mu ds)) (h : ED Γ te δ fun d => ED Γ ti δ fun x => ∃ k : Nat, x = .int k ∧ k < ds.length ∧ D.nx (δ.set i (.mu (ds.set k d)))) : SD Γ (tAsg te (gSub (tVar i) ti rSetL)) δ D := fun G H σ E at_ hn hr hb hc =>
  h G H σ _ at_ fun v d G1 H1 f1 g1 d1 h2 => by
    have at1 := at_.step f1 g1
    obtain ⟨a, xs, h1, h2', h3, h4, h5, h6⟩ := at1.env.mu i ds hi
    refine ⟨.ref a, h1, h2 G1 H1 σ _ at1 fun w x G2 H2 f2 g2 d2 ⟨k, e, hk, p⟩ => ?_⟩
    subst e
    cases d2
    have kk := f2.o a _ h2' h3
    refine ⟨a, xs, k, k, rfl, rfl, kk.2 h5, Evl.ixN_nat (by rw [h6.length]; exact hk), ?_⟩
    exact hn _ G2 _ σ (f1.g.trans f2.g) ((at1.step f2 g2).store hi h1 ((h6.mono f2.g).set (d1.mono f2.g) k) (xs := xs)) p
theorem drall_erase {K : PySem.W.Frag} {G : Hp} : ∀ {xs : List V} {ds : List Dt} (k : Nat), DrAll K G xs ds → DrAll K G (xs.eraseIdx k) (ds.eraseIdx k)
  | _, _, _, .nil => .nil
  | _, _, 0, .cons _ t => t
  | _, _, k + 1, .cons r t => .cons r (drall_erase k t)
theorem seqIndex_nat {k n : Nat} (h : k < n) : seqIndex? (k : Int) n = some k := by
  unfold seqIndex?
  simp
  omega
theorem sd_appPop (hij : i ≠ j) (hi : δ[i]? = some (.mu es)) (hj : δ[j]? = some (.mu ds)) (hl : es.length < 100000) (h : ED Γ te δ fun x => ∃ (k : Nat) (d : Dt), x = .int k ∧ k < 100000 ∧ ds[k]? = some d ∧ D.nx ((δ.set j (.mu (ds.eraseIdx k))).set i (.mu (es ++ [d])))) :
    SD Γ (tDrop (tBM Γ.W.K "list" rAppend (tVar i) (tCons (tBM Γ.W.K "list" rPopAt (tVar j) (tCons te tNil)) tNil))) δ D := fun G H σ E at_ hn hr hb hc => by
  obtain ⟨a, xs, h1, h2, h3, h4, h5, h6⟩ := at_.env.mu i es hi
  obtain ⟨b, ys, k1, k2, k3, k4, k5, k6⟩ := at_.env.mu j ds hj
  have hab : a ≠ b := fun z => at_.env.sep i j a _ _ hij hi hj rfl rfl h1 (z ▸ k1)
  refine ⟨.ref a, h1, .inl ⟨rfl, xs, .inl (.inl h2)⟩, .ref b, k1, .inl ⟨rfl, ys, .inl (.inl k2)⟩, h G H σ _ at_ fun v x G1 H1 f1 g1 d1 ⟨k, d, e, hk, hd, p⟩ => ?_⟩
  subst e
  cases d1
  have ka := f1.o a _ h2 h3
  have kb := f1.o b _ k2 k3
  obtain ⟨y, hy, ry⟩ := k6.getD hd
  have hlt : k < ys.length := (List.getElem?_eq_some_iff.mp hy).1
  refine ⟨b, ys, k, k, y, rfl, rfl, kb.2 k5, by omega, by omega, seqIndex_nat hlt, hy, ?_⟩
  have at1 : At Γ (δ.set j (.mu (ds.eraseIdx k))) G1 (upd H1 b (.lst (ys.eraseIdx k))) σ := (at_.step f1 g1).store hj k1 (drall_erase k (k6.mono f1.g)) (xs := ys)
  have hi1 : (δ.set j (.mu (ds.eraseIdx k)))[i]? = some (.mu es) := by rw [set_get, if_neg hij.symm]; exact hi
  refine ⟨a, xs, y, rfl, rfl, ?_, ?_, ?_⟩
  · rw [upd_ne hab]
    exact ka.2 h5
  · rw [h6.length]
    exact Nat.lt_trans hl (by decide)
  · exact hn _ G1 _ σ f1.g (at1.store hi1 h1 ((h6.mono f1.g).append (.cons (ry.mono f1.g) .nil)) (xs := xs)) p
end
/-! ### the stock, by divmod -/
section
variable {Γ : Cn} {δ : List Sl} {te : TE} {P : Dt → Prop} {C : Nat → Int → Prop} {n i j l : Nat} {a : Addr} {z : Int} {D : De} {t : TA}
theorem stk_at {G H : Hp} {σ : L2.St} {x : Int} (at1 : At Γ δ G H σ) (hM : Γ.W.M = some a) (hJ : Γ.W.J = SJ C n) (hj : j < n) (cx : C j x) :
    ∃ ns : List Int, ns.length = n ∧ H a = some (.lst (ns.map V.int)) ∧ At Γ δ G (upd H a (.lst ((ns.map V.int).set j (.int x)))) σ := by
  obtain ⟨hg, o, ho, hJo⟩ := at1.gd.st a hM
  have hJo' := hJo
  rw [hJ] at hJo'
  obtain ⟨ns, hl, rfl, hC⟩ := hJo'
  refine ⟨ns, hl, ho, ?_⟩
  have es : (ns.map V.int).set j (.int x) = (ns.set j x).map V.int := by rw [List.map_set]
  rw [es]
  refine ⟨⟨at1.fr.g, fun b u e gb => ?_⟩, ⟨fun b u e => ?_, fun b e => ?_⟩, ?_⟩
  · obtain ⟨k1, k2⟩ := at1.fr.o b u e gb
    refine ⟨k1, fun hm => ?_⟩
    have hb : b ≠ a := fun q => hm (q ▸ hM)
    rw [upd_ne hb]
    exact k2 hm
  · have hb : b ≠ a := ne_of_none e hg
    rw [upd_ne hb]
    exact at1.gd.sub b u e
  · rw [hM] at e
    cases e
    refine ⟨hg, _, upd_same, ?_⟩
    rw [hJ]
    refine ⟨ns.set j x, by rw [List.length_set]; exact hl, rfl, fun i' y hy => ?_⟩
    rw [set_get] at hy
    by_cases q : j = i'
    · rw [if_pos q] at hy
      split at hy
      · cases hy
        exact q ▸ cx
      · cases hy
    · rw [if_neg q] at hy
      exact hC i' y hy
  · exact {
      len := at1.env.len
      dat := at1.env.dat
      mu := fun j' ds hj' => by
        obtain ⟨b, ys, k1, k2, k3, k4, k5, k6⟩ := at1.env.mu j' ds hj'
        have hb : b ≠ a := fun q => k5 (q ▸ hM)
        exact ⟨b, ys, k1, by rw [upd_ne hb]; exact k2, k3, k4, k5, k6⟩
      slf := fun j' Cc fds hj' => by
        obtain ⟨b, dx, ys, k1, k2, k3, k4, k5, k6, k7, k8, k9, k10⟩ := at1.env.slf j' Cc fds hj'
        have hb : b ≠ a := fun q => k8 (q ▸ hM)
        have hb2 : dx ≠ a := fun q => k9 (q ▸ hM)
        exact ⟨b, dx, ys, k1, by rw [upd_ne hb]; exact k2, by rw [upd_ne hb2]; exact k3, k4, k5, k6, k7, k8, k9, k10⟩
      sep := at1.env.sep }
theorem sd_stkDm (hd : δ[i]? = some (.dat (.raw (.ref a)))) (hM : Γ.W.M = some a) (hJ : Γ.W.J = SJ C n) (hz : z = (j : Int)) (hj : j < n)
    (h : RA Γ t δ fun ds => ∃ x y, ds = [.int x, .int y] ∧ CDivP x y ∧ C j (x / y) ∧ D.nx (δ.set l (.dat (.int (x % y))))) : SD Γ (tAsg (tCB rDm t) (gTup Γ.W.K 2 (gCons (gSub (tVar i) (tC (.int z)) rSetL) (gCons (gName l) gNil)))) δ D := fun G H σ E at_ hn hr hb hc =>
  h G H σ _ at_ fun vs ds G1 H1 f1 g1 r ⟨x, y, e, hc', cx, p⟩ => by
    subst e
    cases r with
    | cons r1 r2 =>
      cases r2 with
      | cons r2 r3 =>
        cases r3
        cases r1.int
        cases r2.int
        refine ⟨x, y, rfl, hc', fun q hq => ?_⟩
        have f2 := Fr.new (o := .tup [.int (x / y), .int (x % y)]) g1 hq
        have g2 := g1.new (o := .tup [.int (x / y), .int (x % y)]) hq
        have at2 := (at_.step f1 g1).step f2 g2
        obtain ⟨ns, hl, ho, at3⟩ := stk_at at2 hM hJ hj cx
        obtain ⟨w, h1, h2⟩ := at2.env.dat i _ hd
        cases h2
        refine ⟨q, _, rfl, .inl (.inl upd_same), rfl, _, _, rfl, .ref a, h1, a, ns.map V.int, z, j, rfl, rfl, ho, ?_, _, _, rfl, rfl, ?_⟩
        · rw [hz, List.length_map, hl]
          exact Evl.ixN_nat hj
        · exact hn _ _ _ _ (f1.g.trans f2.g) ⟨at3.fr, at3.gd, at3.env.set (.int _)⟩ p
end
/-! ### == and != where an object of the class at C may stand -/
structure KdE (K : PySem.W.Frag) (C : Addr) : Prop where
  kd : Po.Kd K C
  hN : PySem.W.mroIn K C (.type "NoneType") = some false
  hi : PySem.W.mroIn K C (.type "int") = some false
  hb : PySem.W.mroIn K C (.type "bool") = some false
  hs : PySem.W.mroIn K C (.type "str") = some false
def rEqC (K : PySem.W.Frag) (C : Addr) (sp : Sp) : R2 := fun x y H Q => rEqA K x y H Q ∨ (rEqO K C sp x y H Q ∨ rEqRf K C sp x y H Q)
def rNeC (K : PySem.W.Frag) (C : Addr) (sp : Sp) : R2 := fun x y H Q => rNeA K x y H Q ∨ rNeO K C sp x y H Q
section
variable {X : Cx} {j k : Nat} {C : Addr} {sp : Sp} {K : PySem.W.Frag}
theorem opEqC (hK : X.K = K) (kd : KdE X.K C) (c : ClM X.prog X.w X.K X.mg X.base k C "__eq__" sp) (hr : Room j X.A) (hk : k ≤ j) : OpR X (compareOp .Eq) (rEqC K C sp) := by
  subst hK
  exact (opEq hr.units).or ((opEqO c hr hk).or (opEqRf kd.kd kd.hN kd.hi kd.hb kd.hs c hr hk))
theorem opNeC (hK : X.K = K) (kd : KdE X.K C) (c : ClM X.prog X.w X.K X.mg X.base k C "__eq__" sp) (hr : Room j X.A) (hk : k + 1 ≤ j) : OpR X (compareOp .NotEq) (rNeC K C sp) := by
  subst hK
  exact (opNe hr.units).or (opNeO kd.kd c hr hk)
end
section
variable {W : Wo} {P : Dt → Prop} {C : Addr} {Pre : Wo → List Dt → Prop} {R : List Dt → Dt → Prop} {fs : List (Str × Dt)} {x y : Dt} {sp : Sp}
theorem od_eqC0 (h : OD W (rEqA W.K) x y P) : OD W (rEqC W.K C sp) x y P := fun G H v w Q g hv hw k => .inl (h G H v w Q g hv hw k)
theorem od_neC0 (h : OD W (rNeA W.K) x y P) : OD W (rNeC W.K C sp) x y P := fun G H v w Q g hv hw k => .inl (h G H v w Q g hv hw k)
theorem Dv.drN {G H : Hp} {v : V} {d : Dt} (h : Dv W G H v d) (hn : ∀ ds, d ≠ .lst ds) : Dr W.K G v d := by
  rcases h with h | ⟨a, xs, ds, h1, h2, _⟩
  · exact h
  · exact absurd h2 (hn ds)
theorem tyl {T : String} (h : tyD y = some T) (hT : T ≠ "list") : ∀ ds, y ≠ .lst ds := fun ds e => by
  subst e
  cases h
  exact hT rfl
/-- obj == obj -/
theorem od_eqCO {gs : List (Str × Dt)} (hp : Pre W [.obj C fs, .obj C gs]) (k2 : ∀ r, R [.obj C fs, .obj C gs] r → (∃ b, r = .bl b) ∧ P r) : OD W (rEqC W.K C (spW W.K 2 Pre R)) (.obj C fs) (.obj C gs) P := fun G H v w Q g hv hw k =>
  .inr (.inl (od_eqO (.inl ⟨gs, rfl⟩) hp k2 G H v w Q g hv.drO hw.drO k))
/-- obj == a value of a built-in type -/
theorem od_eqCB {T : String} (hy : tyD y = some T) (hT : T ≠ "list") (hp : Pre W [.obj C fs, y]) (k2 : ∀ r, R [.obj C fs, y] r → (∃ b, r = .bl b) ∧ P r) : OD W (rEqC W.K C (spW W.K 2 Pre R)) (.obj C fs) y P := fun G H v w Q g hv hw k =>
  .inr (.inl (od_eqO (.inr ⟨T, hy⟩) hp k2 G H v w Q g hv.drO (hw.drN (tyl hy hT)) k))
/-- a value of a built-in type == obj -/
theorem od_eqCR (hy : y = .non ∨ (∃ i, y = .int i) ∨ (∃ b, y = .bl b) ∨ (∃ z, y = .str z) ∨ ∃ ds, y = .tup ds) (hp : Pre W [.obj C fs, y]) (k2 : ∀ r, R [.obj C fs, y] r → (∃ b, r = .bl b) ∧ P r) : OD W (rEqC W.K C (spW W.K 2 Pre R)) y (.obj C fs) P := fun G H w v Q g hw hv k =>
  .inr (.inr (od_eqRf hy hp k2 G H w v Q g (hw.drN (by rintro ds rfl; rcases hy with z | ⟨_, z⟩ | ⟨_, z⟩ | ⟨_, z⟩ | ⟨_, z⟩ <;> cases z)) hv.drO k))
theorem od_neCO {gs : List (Str × Dt)} (hp : Pre W [.obj C fs, .obj C gs]) (k2 : ∀ r, R [.obj C fs, .obj C gs] r → ∃ b, r = .bl b ∧ P (.bl (!b))) : OD W (rNeC W.K C (spW W.K 2 Pre R)) (.obj C fs) (.obj C gs) P := fun G H v w Q g hv hw k =>
  .inr (od_neO (.inl ⟨gs, rfl⟩) hp k2 G H v w Q g hv.drO hw.drO k)
end
end Pd
namespace Pd
open PySem PySem.Spec PyProof.Rows L2
theorem pe_fldK {X : Cx} {K : PySem.W.Frag} {e : Expr} {f : Str} {pos : Pos} {ta : TE} (hK : X.K = K) (he : PE X e ta) (hb : attributeBase e f X.env (eval e X.env) = eval e X.env) : PE X (.Attribute e f pos) (tFld K ta f) := hK ▸ pe_fld he hb
theorem ps_fldK {X : Cx} {K : PySem.W.Frag} {o value : Expr} {f : Str} {pos pos' : Pos} {ta tv : TE} (hK : X.K = K) (ha : PE X o ta) (hv : PE X value tv) (hs : swapsWith value (some (.Attribute o f pos')) pos.line X.env = pure false) : PS X (.Assign [.Attribute o f pos'] value pos) (sFld K ta tv f) := hK ▸ ps_fld ha hv hs
theorem ed_isN {Γ : Cn} {δ : List Sl} {ta : TE} {P : Dt → Prop} (h : ED Γ ta δ fun d => (∀ v, d ≠ .raw v) ∧ P (.bl (match d with | .non => true | _ => false))) : ED Γ (tIsN ta) δ P := fun G H σ Q at_ k =>
  h G H σ _ at_ fun v d G1 H1 f1 g1 d1 ⟨hr, p⟩ => by
    cases d1 with
    | non => exact k _ _ G1 H1 f1 g1 (.bl true) p
    | bl b => exact k _ _ G1 H1 f1 g1 (.bl false) p
    | int b => exact k _ _ G1 H1 f1 g1 (.bl false) p
    | str b => exact k _ _ G1 H1 f1 g1 (.bl false) p
    | tup _ _ => exact k _ _ G1 H1 f1 g1 (.bl false) p
    | lst _ _ => exact k _ _ G1 H1 f1 g1 (.bl false) p
    | scr _ => exact k _ _ G1 H1 f1 g1 (.bl false) p
    | dct _ => exact k _ _ G1 H1 f1 g1 (.bl false) p
    | raw v => exact absurd rfl (hr v)
    | obj _ _ _ => exact k _ _ G1 H1 f1 g1 (.bl false) p
end Pd
namespace Pd
open PySem PySem.Spec PyProof.Rows L2
theorem body_ofN2 {K : PySem.W.Frag} {n : Nat} {Pre : Wo → List Dt → Prop} {R : List Dt → List Dt → Prop} {N : List Str} {t1 t2 : TS} {te : TE} {vs : List V} {H : Hp} {Q : VK} {E : XK}
    (h : ∀ (Γ : Cn) ds, Γ.W.K = K → ds.length = n → Pre Γ.W ds → SD Γ (tSeq t1 t2) (slots N.length ds) { nx := fun δ' => NL Γ te δ' (R ds), rt := fun _ => False }) (hs : spN K n Pre R vs H Q E) : tSeq t1 (tSeq t2 (tRet te)) { nx := fun _ H' => Q .non H', rt := Q } (L2.start N vs) H :=
  body_ofN (t1 := tSeq t1 t2) h hs
end Pd
namespace Pd
open PySem PySem.Spec PyProof.Rows L2
/-- x = [] -/
theorem sd_asgNil {Γ : Cn} {δ : List Sl} {i : Nat} {D : De} (h : D.nx (δ.set i (.mu []))) : SD Γ (tAsg (tLst tNil) (gName i)) δ D := sd_asgV (vd_nl (nl_lst (ad_nil ⟨by decide, h⟩)))
end Pd

set_option Elab.async false
set_option linter.all false
set_option maxRecDepth 100000
set_option maxHeartbeats 4000000
namespace Pd.K31
open PySem PySem.Spec PyProof.Rows L2 Pd
def top (i : Nat) : Stmt := PySem.Challenge.pw_everysite_k31_weights_made.main.body.getD i (.Pass ⟨0, 0, 0, 0⟩)
/-- what the top has left -/
structure Txt (K : PySem.W.Frag) (mg : Str → Option Value) (C : Addr) : Prop where
  b_len : mg "len" = none
  b_int : mg "int" = none
  b_abs : mg "abs" = none
  b_isinstance : mg "isinstance" = none
  b_str : mg "str" = none
  b_bool : mg "bool" = none
  b_tuple : mg "tuple" = none
  b_list : mg "list" = none
  b_all : mg "all" = none
  b_any : mg "any" = none
  b_range : mg "range" = none
  b_enumerate : mg "enumerate" = none
  b_sorted : mg "sorted" = none
  b_divmod : mg "divmod" = none
  b_max : mg "max" = none
  b_min : mg "min" = none
  b_repr : mg "repr" = none
  c_LETTERS : ∃ u, mg "LETTERS" = some u ∧ RelV (.str "abcdefghijklmnopqrstuvwxyz") u
  c_SIGNS : ∃ u, mg "SIGNS" = some u ∧ RelV (.str "abcdefghijklmnopqrstuvwxyz0123456789") u
  c_LONGEST : ∃ u, mg "LONGEST" = some u ∧ RelV (.int 8) u
  c_MOST_NAMES : ∃ u, mg "MOST_NAMES" = some u ∧ RelV (.int 12) u
  k_Weights : ∃ u, mg "Weights" = some u ∧ RelV (.ref C) u
  e_Weights : KdE K C
  nb_Weights : PySem.W.findIn K (.ref C) "__bool__" = some none
  nl_Weights : PySem.W.findIn K (.ref C) "__len__" = some none
  n_page : NoAttr K C "page"
  n_marks : NoAttr K C "marks"
  n_links : NoAttr K C "links"
  n_templates : NoAttr K C "templates"
local macro_rules | `(tactic| walk_at "p0") => `(tactic| first
  | with_reducible refine sd_seq ?_ | with_reducible refine sd_ret ?_ | with_reducible refine sd_if ?_ | with_reducible refine sd_asgNil ?_ | with_reducible refine sd_asg ?_ | with_reducible refine sd_next ?_ | with_reducible refine sd_parD ?_ | with_reducible refine sd_par3 ?_
  | ((with_reducible refine' ed_var ?hv ?_); (case hv => rfl)) | with_reducible refine ed_int ?_ | with_reducible refine ed_str ?_ | with_reducible refine ed_bl ?_ | with_reducible refine ed_non ?_ | with_reducible refine ed_raw ?_
  | with_reducible refine ed_op ?_ | with_reducible refine ed_cb ?_ | with_reducible refine ra_cons ?_ | with_reducible refine ra_nil ?_ | with_reducible refine ad_cons ?_ | with_reducible refine ad_nil ?_ | with_reducible refine ed_chain ?_ | with_reducible refine ed_neg ?_
  | with_reducible refine td_test ?_ | with_reducible refine td_B ?_ | with_reducible refine td_not ?_ | with_reducible refine td_and ?_ | with_reducible refine td_or ?_ | with_reducible refine ed_andV ?_ | with_reducible refine ed_orV ?_ | with_reducible refine ed_notV ?_ | with_reducible refine ed_if ?_
  | with_reducible refine ED.rd ?_ | with_reducible refine gd_name ?_ | with_reducible refine op_none ?_ | with_reducible refine op_some ?_
  | with_reducible refine od_addI ?_ | with_reducible refine od_subI ?_ | with_reducible refine od_lt ?_ | with_reducible refine od_le ?_ | with_reducible refine od_gt ?_ | with_reducible refine od_ge ?_ | with_reducible refine od_eqI ?_ | with_reducible refine od_neI ?_ | with_reducible refine od_eqS ?_ | with_reducible refine od_neS ?_
  | with_reducible refine cd_int ?_ | with_reducible refine cd_abs ?_ | with_reducible refine cd_max2 ?_ | with_reducible refine cd_min2 ?_ | with_reducible refine cd_lenScr ?_ | ((with_reducible refine cd_lenS ?hz ?_); (case hz => first | decide | omega)) | with_reducible refine cd_lenL ?_ | with_reducible refine cd_lenT ?_
  | with_reducible refine ⟨_, rfl, ?_⟩
  | dsimp only [List.set_cons_zero, List.set_cons_succ]
  | refine ⟨fun _ => ?_, fun z => Bool.noConfusion z⟩ | refine ⟨fun z => Bool.noConfusion z, fun _ => ?_⟩)
local macro_rules | `(tactic| walk_at "p1") => `(tactic| first
  | ((with_reducible refine' ed_stk ?hd ?hM ?hJ ?hz ?hj ?_); (case hd => rfl); (case hM => assumption); (case hJ => assumption); (case hz => first | exact (rfl : (0 : Int) = ((0 : Nat) : Int)) | exact (rfl : (1 : Int) = ((1 : Nat) : Int)) | exact (rfl : (2 : Int) = ((2 : Nat) : Int))); (case hj => decide); intro x hx; (try have hx0 := hx.1 rfl); (try have hx1 := hx.2 rfl))
  | walk_at "p0"
  | ((with_reducible refine od_mod ?hc ?_); (case hc => first | decide | omega))
  | ((with_reducible refine od_mulI ?hc ?_); (case hc => first | exact .inl ⟨by decide, by decide⟩ | exact .inr ⟨by decide, by decide⟩ | exact .inl ⟨by omega, by omega⟩ | exact .inr ⟨by omega, by omega⟩))
  | ((with_reducible refine od_div ?hc ?_); (case hc => first | exact wide_div (b := 10) (by decide) (by decide) (by decide) (by decide) | exact wide_div (b := 10) (by omega) (by omega) (by decide) (by decide)))
  | ((with_reducible refine od_pow ?hc ?_); (case hc => exact ⟨by decide, by decide, by decide⟩)))
local macro_rules | `(tactic| walk_at "pr") => `(tactic| repeat walk_at "p1")

section
variable {P : Program} {w : World} {K : PySem.W.Frag} {mg : Str → Option Value} {base : Heap} {C : Addr}
/-! ### the draws -/
abbrev StC : Nat → Int → Prop := fun i x => (i = 0 → 0 ≤ x ∧ x < 2147483563) ∧ (i = 1 → 0 ≤ x)
def PreStk (W : Wo) (d : Dt) : Prop := ∃ a, d = .raw (.ref a) ∧ W.M = some a ∧ W.J = SJ StC 3
theorem nat_of {x n : Int} (h : 0 ≤ x) (h2 : x < n) : ∃ k : Nat, Dt.int x = .int (k : Int) ∧ (k : Int) < n := ⟨x.toNat, by rw [Int.toNat_of_nonneg h], by omega⟩
abbrev s__law_draw : Stmt := top 24
abbrev N__law_draw : List Str := ["_law_pool_here", "_law_many", "_law_digit", "_law_seed"]
theorem sc__law_draw : FnScope N__law_draw ["_law_pool_here", "_law_many"] (defScope s__law_draw) := ⟨rfl, rfl, rfl, by decide +kernel, rfl, by decide +kernel, by decide +kernel⟩
theorem sl__law_draw (d0 d1 : Dt) : slots N__law_draw.length [d0, d1] = [.dat d0, .dat d1, .un, .un] := rfl
def preDraw : Wo → List Dt → Prop := fun W ds => ∃ d n, ds = [d, .int n] ∧ PreStk W d ∧ 1 ≤ n ∧ n < 2 ^ 200
def resDraw : List Dt → Dt → Prop := fun ds r => ∀ d n, ds = [d, .int n] → ∃ k : Nat, r = .int (k : Int) ∧ (k : Int) < n
abbrev spDraw (K : PySem.W.Frag) : Sp := spW K 2 preDraw resDraw
theorem ok_draw {f : Addr} {fd : FuncData} (F : Fun K "_law_draw" "_law_draw" s__law_draw f fd) (T : Txt K mg C) : FnOk P w K mg base L2.CX0 1 f fd ["_law_pool_here", "_law_many"] (spDraw K) := by
  refine F.ok sc__law_draw (fun vs H Q E h => h.1) (fun cdv A outer s H vs Q E hr h => ?_)
  have hu65 := hr.units65
  refine ⟨_, (pss_cons (ps_asg (pe_op (OpR.wk (r := rAddA) (K := K) opAdd rfl) (pe_ix (IxR.wk (r := rIx) (K := K) ix_seq rfl) (pv 0) pe_int (fun _ _ => rfl)) pe_int) (pg_sub (pv 0) pe_int set_list))
      (pss_cons (ps_if (pt_cmpR op_gt (pe_ix (IxR.wk (r := rIx) (K := K) ix_seq rfl) (pv 0) pe_int (fun _ _ => rfl)) pe_int (nomark _)) (pss_cons (ps_asg (pe_callB callDm (by rfl) T.b_divmod (by decide +kernel) (pa_cons (pe_ix (IxR.wk (r := rIx) (K := K) ix_seq rfl) (pv 0) pe_int (fun _ _ => rfl)) (pa_cons (pv 1) pa_nil))) (pg_tupK (K := K) rfl (pgs_cons (pg_sub (pv 0) pe_int set_list) (pgs_cons (pg_name (i := 2) sc__law_draw.nd rfl (Or.inl rfl)) pgs_nil)) rfl))
      (pss_one (ps_ret (pv 2)))) pss_nil)
      (pss_cons (ps_set (i := 3) sc__law_draw.nd rfl (Or.inl rfl) (pe_callTy callInt (by rfl) T.b_int (by decide +kernel) (pa_cons (pe_ix (IxR.wk (r := rIx) (K := K) ix_seq rfl) (pv 0) pe_int (fun _ _ => rfl)) pa_nil)))
      (pss_cons (ps_asg (pe_op op_mod (pe_callTy callInt (by rfl) T.b_int (by decide +kernel) (pa_cons (pe_op (OpR.wk (r := rAddA) (K := K) opAdd rfl) (pe_op (OpR.wk (r := rAddA) (K := K) opAdd rfl) (pe_op opMul (pv 3) (pe_op (OpR.wk (r := rAddA) (K := K) opAdd rfl) (pe_op op_mod (pe_callTy callInt (by rfl) T.b_int (by decide +kernel) (pa_cons (pv 3) pa_nil)) pe_int) pe_int)) (pe_op opMul pe_int (pe_ix (IxR.wk (r := rIx) (K := K) ix_seq rfl) (pv 0) pe_int (fun _ _ => rfl)))) pe_int) pa_nil)) pe_int) (pg_sub (pv 0) pe_int set_list))
      (pss_one (ps_ret (pe_op op_mod (pe_callTy callInt (by rfl) T.b_int (by decide +kernel) (pa_cons (pe_op op_fdivW (pe_ix (IxR.wk (r := rIx) (K := K) ix_seq rfl) (pv 0) pe_int (fun _ _ => rfl)) pe_int) pa_nil)) (pv 1)))))))), ?_⟩
  try dsimp only [cxOf, Cx.nox]
  refine body_of (N := N__law_draw) (fun Γ ds hK hl hp => ?_) h
  subst hK
  obtain ⟨_, n, rfl, ⟨a, rfl, hM, hJ⟩, h1, h2⟩ := hp
  rw [sl__law_draw]
  refine sd_seq (sd_stk (i := 0) (a := a) (j := 2) rfl hM hJ rfl (by decide) ?_)
  walk_at "pr"
  refine ⟨⟨fun z => absurd z (by decide), fun z => absurd z (by decide)⟩, ?_⟩
  walk_at "pr"
  refine ⟨fun _ => ?_, fun _ => ?_⟩
  · refine sd_seq (sd_stkDm (i := 0) (a := a) (j := 1) rfl hM hJ rfl (by decide) ?_)
    walk_at "pr"
    rename_i x hx hx0 hx1 y hy hy0
    have hy1 : 0 ≤ y := hy.2 rfl
    refine ⟨_, _, rfl, divp_small (by omega) h2, ⟨fun z => absurd z (by decide), fun _ => Int.ediv_nonneg hy1 (by omega)⟩, ?_⟩
    walk_at "pr"
    intro d m e
    cases e
    exact nat_of (Int.emod_nonneg _ (by omega)) (Int.emod_lt_of_pos _ (by omega))
  · walk_at "pr"
    refine sd_stk (i := 0) (a := a) (j := 0) rfl hM hJ rfl (by decide) ?_
    walk_at "pr"
    refine ⟨⟨fun _ => ⟨Int.emod_nonneg _ (by decide), Int.emod_lt_of_pos _ (by decide)⟩, fun z => absurd z (by decide)⟩, ?_⟩
    walk_at "pr"
    intro d m e
    cases e
    exact nat_of (Int.emod_nonneg _ (by omega)) (Int.emod_lt_of_pos _ (by omega))
theorem ed_draw {Γ : Cn} {δ : List Sl} {Pq : Dt → Prop} {i : Nat} {d : Dt} {te : TE} (hd : δ[i]? = some (.dat d)) (hS : PreStk Γ.W d)
    (h : ED Γ te δ fun x => ∃ n, x = .int n ∧ 1 ≤ n ∧ n < 2 ^ 200 ∧ ∀ k : Nat, (k : Int) < n → Pq (.int (k : Int))) : ED Γ (tCall (spDraw Γ.W.K) [] L2.E0 (tCons (tVar i) (tCons te tNil))) δ Pq :=
  ed_call (ad_cons (ed_var hd (ad_cons (h.imp fun x ⟨n, e, h1, h2, h3⟩ => by
    subst e
    exact ad_nil ⟨rfl, ⟨d, n, rfl, hS, h1, h2⟩, fun r hr => by
      obtain ⟨k, rfl, hk⟩ := hr _ _ rfl
      exact h3 k hk⟩))))
/-! ### _law_cell -/
abbrev s__law_cell : Stmt := top 22
abbrev N__law_cell : List Str := ["_law_cells", "_law_k", "_law_mixed", "_law_one"]
theorem sc__law_cell : FnScope N__law_cell ["_law_cells", "_law_k"] (defScope s__law_cell) := ⟨rfl, rfl, rfl, by decide +kernel, rfl, by decide +kernel, by decide +kernel⟩
theorem sl__law_cell (d0 d1 : Dt) : slots N__law_cell.length [d0, d1] = [.dat d0, .dat d1, .un, .un] := rfl
def preCell : Wo → List Dt → Prop := fun _ ds => ∃ (ns : List Int) (k : Nat), ds = [.scr ns, .int (k : Int)] ∧ k ≤ 1000
def resInt : List Dt → Dt → Prop := fun _ r => ∃ z : Int, r = .int z
abbrev spCell (K : PySem.W.Frag) : Sp := spW K 2 preCell resInt
theorem ok_cell {f : Addr} {fd : FuncData} (F : Fun K "_law_cell" "_law_cell" s__law_cell f fd) (T : Txt K mg C) : FnOk P w K mg base L2.CX0 1 f fd ["_law_cells", "_law_k"] (spCell K) := by
  refine F.ok sc__law_cell (fun vs H Q E h => h.1) (fun cdv A outer s H vs Q E hr h => ?_)
  have hu65 := hr.units65
  refine ⟨_, (pss_cons (ps_if (pt_cmpR op_lt (pv 1) (pe_callB (CallR.wk (r := Pd.rLen) (K := K) callLen rfl) (by rfl) T.b_len PySem.boot_len (pa_cons (pv 0) pa_nil)) (nomark _)) (pss_one (ps_ret (pe_ix (IxR.wk (r := rIx) (K := K) ix_seq rfl) (pv 0) (pv 1) (fun _ _ => rfl)))) pss_nil)
      (pss_cons (ps_set (i := 2) sc__law_cell.nd rfl (Or.inl rfl) (pe_op (OpR.wk (r := rAddA) (K := K) opAdd rfl) pe_int (pe_op opMul pe_int (pv 1))))
      (pss_cons (ps_for PassesOwn.never rfl (pi_listK (K := K) (pe_slice (slAnyK (K := K) rfl) (pv 0) po_none (po_some pe_int)) rfl) (pg_name (i := 3) sc__law_cell.nd rfl (Or.inl rfl)) (pss_one (ps_set (i := 2) sc__law_cell.nd rfl (Or.inl rfl) (pe_op (OpR.wk (r := rAddA) (K := K) opAdd rfl) (pe_op op_mod (pe_callTy callInt (by rfl) T.b_int (by decide +kernel) (pa_cons (pe_op (OpR.wk (r := rAddA) (K := K) opAdd rfl) (pe_op opMul (pv 2) pe_int) (pv 3)) pa_nil)) pe_int) (pv 1)))))
      (pss_one (ps_ret (pv 2)))))), ?_⟩
  try dsimp only [cxOf, Cx.nox]
  refine body_of (N := N__law_cell) (fun Γ ds hK hl hp => ?_) h
  subst hK
  obtain ⟨ns, k, rfl, hk⟩ := hp
  rw [sl__law_cell]
  walk_at "pr"
  refine ⟨fun hb => ?_, fun hb => ?_⟩
  · have hlt : k < ns.length := by
      have := of_decide_eq_true hb
      omega
    walk_at "pr"
    refine od_ixScr (List.getElem?_eq_getElem hlt) ?_
    exact ⟨_, rfl⟩
  · walk_at "pr"
    refine sd_for (js := [3]) (wd_list (ed_sl ?_))
    walk_at "pr"
    refine .inr (.inr (.inr ⟨ns, rfl, _, rfl, ?_⟩))
    refine ⟨fun i δ' => ∃ (z : Int) (c : Sl), δ' = [.dat (.scr ns), .dat (.int (k : Int)), .dat (.int z), c], ⟨_, _, rfl⟩, ?_, ?_⟩
    · rintro i x δ' hx ⟨z, c, rfl⟩
      obtain ⟨y, rfl⟩ : ∃ y, x = .int y := by
        rw [List.getElem?_map] at hx
        cases q : (cutD ns none (some 2))[i]? with
        | none => rw [q] at hx; cases hx
        | some y => rw [q] at hx; cases hx; exact ⟨y, rfl⟩
      walk_at "pr"
      exact ⟨_, _, rfl⟩
    · rintro δ' ⟨z, c, rfl⟩
      walk_at "pr"
      exact ⟨_, rfl⟩
/-! ### _law_pool -/
abbrev s__law_pool : Stmt := top 23
abbrev N__law_pool : List Str := ["_law_cell_here", "_law_seed", "_law_digits"]
theorem sc__law_pool : FnScope N__law_pool ["_law_cell_here"] (defScope s__law_pool) := ⟨rfl, rfl, rfl, by decide +kernel, rfl, by decide +kernel, by decide +kernel⟩
theorem sl__law_pool (d0 : Dt) : slots N__law_pool.length [d0] = [.dat d0, .un, .un] := rfl
def prePool : Wo → List Dt → Prop := fun _ ds => ∃ z : Int, ds = [.int z]
def resPool : List Dt → List Dt → Prop := fun _ es => ∃ ns : List Int, ns.length = 3 ∧ es = ns.map Dt.int ∧ ∀ (i : Nat) (x : Int), ns[i]? = some x → StC i x
abbrev spPool (K : PySem.W.Frag) : Sp := spN K 1 prePool resPool
theorem pool_ok {g z : Int} (hg : 0 ≤ g) : ∀ (i : Nat) (x : Int), [z % 2147483563, g, 0][i]? = some x → StC i x := by
  intro i x hx
  match i, hx with
  | 0, hx => cases hx; exact ⟨fun _ => ⟨Int.emod_nonneg _ (by decide), Int.emod_lt_of_pos _ (by decide)⟩, fun z => absurd z (by decide)⟩
  | 1, hx => cases hx; exact ⟨fun z => absurd z (by decide), fun _ => hg⟩
  | 2, hx => exact ⟨fun z => absurd z (by decide), fun z => absurd z (by decide)⟩
  | i + 3, hx => simp at hx
theorem abs_nn (z : Int) : 0 ≤ (if z < 0 then -z else z) := by split <;> omega
theorem ok_pool {f : Addr} {fd : FuncData} (F : Fun K "_law_pool" "_law_pool" s__law_pool f fd) (T : Txt K mg C) : FnOk P w K mg base L2.CX0 1 f fd ["_law_cell_here"] (spPool K) := by
  refine F.ok sc__law_pool (fun vs H Q E h => h.1) (fun cdv A outer s H vs Q E hr h => ?_)
  have hu65 := hr.units65
  refine ⟨_, (pss_cons (ps_set (i := 1) sc__law_pool.nd rfl (Or.inl rfl) (pe_op op_mod (pe_callTy callInt (by rfl) T.b_int (by decide +kernel) (pa_cons (pv 0) pa_nil)) pe_int))
      (pss_cons (ps_set (i := 2) sc__law_pool.nd rfl (Or.inl rfl) (pe_ifExp (PW.pt (pw_or (pt_cmpR op_lt (pv 0) pe_int (nomark _)) (pw_or1 (pt_cmpR op_ge (pv 0) (pe_op op_pow pe_int pe_int) (nomark _))))) (pe_callB callAbs (by rfl) T.b_abs (by decide +kernel) (pa_cons (pv 0) pa_nil)) pe_int))
      (pss_one (ps_ret (pe_lst (pa_cons (pe_op op_mod (pe_callTy callInt (by rfl) T.b_int (by decide +kernel) (pa_cons (pe_op (OpR.wk (r := rAddA) (K := K) opAdd rfl) (pe_op (OpR.wk (r := rAddA) (K := K) opAdd rfl) (pe_op opMul (pe_op opMul (pv 1) (pv 1)) pe_int) (pe_op opMul (pv 1) pe_int)) pe_int) pa_nil)) pe_int) (pa_cons (pv 2) (pa_cons pe_int pa_nil)))))))), ?_⟩
  try dsimp only [cxOf, Cx.nox]
  refine body_ofN2 (N := N__law_pool) (fun Γ ds hK hl hp => ?_) h
  subst hK
  obtain ⟨z, rfl⟩ := hp
  rw [sl__law_pool]
  have hz0 : 0 ≤ z % 2147483563 := Int.emod_nonneg _ (by decide)
  have hz1 : z % 2147483563 < 2147483563 := Int.emod_lt_of_pos _ (by decide)
  walk_at "pr"
  refine ⟨fun hb => ⟨fun _ => ?_, fun z => by cases z⟩, fun hb => ?_⟩
  · walk_at "pr"
    refine nl_lst ?_
    walk_at "pr"
    exact ⟨by show 3 ≤ 100000; decide, _, rfl, rfl, pool_ok (abs_nn z)⟩
  · walk_at "pr"
    refine ⟨fun hb => ?_, fun hb => ?_⟩
    · walk_at "pr"
      refine nl_lst ?_
      walk_at "pr"
      exact ⟨by show 3 ≤ 100000; decide, _, rfl, rfl, pool_ok (abs_nn z)⟩
    · walk_at "pr"
      refine nl_lst ?_
      walk_at "pr"
      exact ⟨by show 3 ≤ 100000; decide, _, rfl, rfl, pool_ok (by decide)⟩

end
end Pd.K31

set_option Elab.async false
set_option linter.all false
set_option maxRecDepth 100000
set_option maxHeartbeats 4000000
namespace Pd.K31
open PySem PySem.Spec PyProof.Rows L2 Pd
local macro_rules | `(tactic| walk_at "p0") => `(tactic| first
  | with_reducible refine sd_seq ?_ | with_reducible refine sd_ret ?_ | with_reducible refine sd_if ?_ | with_reducible refine sd_asgNil ?_ | with_reducible refine sd_asg ?_ | with_reducible refine sd_next ?_ | with_reducible refine sd_parD ?_ | with_reducible refine sd_par3 ?_
  | ((with_reducible refine' ed_var ?hv ?_); (case hv => rfl)) | with_reducible refine ed_int ?_ | with_reducible refine ed_str ?_ | with_reducible refine ed_bl ?_ | with_reducible refine ed_non ?_ | with_reducible refine ed_raw ?_
  | with_reducible refine ed_op ?_ | with_reducible refine ed_cb ?_ | with_reducible refine ra_cons ?_ | with_reducible refine ra_nil ?_ | with_reducible refine ad_cons ?_ | with_reducible refine ad_nil ?_ | with_reducible refine ed_chain ?_ | with_reducible refine ed_neg ?_
  | with_reducible refine td_test ?_ | with_reducible refine td_B ?_ | with_reducible refine td_not ?_ | with_reducible refine td_and ?_ | with_reducible refine td_or ?_ | with_reducible refine ed_andV ?_ | with_reducible refine ed_orV ?_ | with_reducible refine ed_notV ?_ | with_reducible refine ed_if ?_
  | with_reducible refine ED.rd ?_ | with_reducible refine gd_name ?_ | with_reducible refine op_none ?_ | with_reducible refine op_some ?_
  | with_reducible refine od_addI ?_ | with_reducible refine od_subI ?_ | with_reducible refine od_lt ?_ | with_reducible refine od_le ?_ | with_reducible refine od_gt ?_ | with_reducible refine od_ge ?_ | with_reducible refine od_eqI ?_ | with_reducible refine od_neI ?_ | with_reducible refine od_eqS ?_ | with_reducible refine od_neS ?_
  | with_reducible refine cd_int ?_ | with_reducible refine cd_abs ?_ | with_reducible refine cd_max2 ?_ | with_reducible refine cd_min2 ?_ | with_reducible refine cd_lenScr ?_ | ((with_reducible refine cd_lenS ?hz ?_); (case hz => first | decide | omega)) | with_reducible refine cd_lenL ?_ | with_reducible refine cd_lenT ?_
  | with_reducible refine ⟨_, rfl, ?_⟩
  | dsimp only [List.set_cons_zero, List.set_cons_succ]
  | refine ⟨fun _ => ?_, fun z => Bool.noConfusion z⟩ | refine ⟨fun z => Bool.noConfusion z, fun _ => ?_⟩)
local macro_rules | `(tactic| walk_at "p1") => `(tactic| first
  | ((with_reducible refine' ed_stk ?hd ?hM ?hJ ?hz ?hj ?_); (case hd => rfl); (case hM => assumption); (case hJ => assumption); (case hz => first | exact (rfl : (0 : Int) = ((0 : Nat) : Int)) | exact (rfl : (1 : Int) = ((1 : Nat) : Int)) | exact (rfl : (2 : Int) = ((2 : Nat) : Int))); (case hj => decide); intro x hx; (try have hx0 := hx.1 rfl); (try have hx1 := hx.2 rfl))
  | walk_at "p0"
  | ((with_reducible refine od_mod ?hc ?_); (case hc => first | decide | omega))
  | ((with_reducible refine od_mulI ?hc ?_); (case hc => first | exact .inl ⟨by decide, by decide⟩ | exact .inr ⟨by decide, by decide⟩ | exact .inl ⟨by omega, by omega⟩ | exact .inr ⟨by omega, by omega⟩))
  | ((with_reducible refine od_div ?hc ?_); (case hc => first | exact wide_div (b := 10) (by decide) (by decide) (by decide) (by decide) | exact wide_div (b := 10) (by omega) (by omega) (by decide) (by decide)))
  | ((with_reducible refine od_pow ?hc ?_); (case hc => exact ⟨by decide, by decide, by decide⟩)))
local macro_rules | `(tactic| walk_at "pr") => `(tactic| repeat walk_at "p1")

section
variable {P : Program} {w : World} {K : PySem.W.Frag} {mg : Str → Option Value} {base : Heap} {C : Addr}
/-! ### is_name, _law_is_name -/
abbrev lettersS : Str := "abcdefghijklmnopqrstuvwxyz"
abbrev signsS : Str := "abcdefghijklmnopqrstuvwxyz0123456789"
def nameOk (z : Str) : Bool := decide (1 ≤ (z.length : Int) ∧ (z.length : Int) ≤ 8) && (decide (z.cps.toList.headD 0 ∈ lettersS.cps.toList) && (z.cps.toList.map fun c => decide (c ∈ signsS.cps.toList)).all id)
def isName : Dt → Bool
  | .str z => nameOk z
  | _ => false
theorem nameOk_no {z : Str} (h : ¬ (1 ≤ (z.length : Int) ∧ (z.length : Int) ≤ 8)) : nameOk z = false := by
  unfold nameOk
  rw [decide_eq_false h]
  rfl
theorem nameOk_in {z : Str} (h : 1 ≤ (z.length : Int) ∧ (z.length : Int) ≤ 8) : nameOk z = (decide (z.cps.toList.headD 0 ∈ lettersS.cps.toList) && (z.cps.toList.map fun c => decide (c ∈ signsS.cps.toList)).all id) := by
  unfold nameOk
  rw [decide_eq_true h]
  rfl
theorem nameOk_cons {z : Str} {c : Nat} {r : List Nat} (h : 1 ≤ (z.length : Int) ∧ (z.length : Int) ≤ 8) (hc : z.cps.toList = c :: r) :
    nameOk z = (decide (c ∈ lettersS.cps.toList) && (z.cps.toList.map fun c => decide (c ∈ signsS.cps.toList)).all id) := by
  have e : z.cps.toList.headD 0 = c := by rw [hc]; rfl
  rw [nameOk_in h, e]
theorem len_cps (z : Str) : z.length = z.cps.toList.length := by simp [Str.length]
/-- a text that is not too long, or a value of another kind -/
def Thing (d : Dt) : Prop := (∃ z : Str, d = .str z ∧ z.length ≤ 1000) ∨ (∃ t, tyD d = some t ∧ kitB t "str" = some false ∧ isName d = false)
def preName : Wo → List Dt → Prop := fun _ ds => ∃ d, ds = [d] ∧ Thing d
def resName : List Dt → Dt → Prop := fun ds r => ∀ d, ds = [d] → r = .bl (isName d)
abbrev spName (K : PySem.W.Frag) : Sp := spW K 1 preName resName
abbrev s_is_name : Stmt := top 13
abbrev N_is_name : List Str := ["value", "sign"]
theorem sc_is_name : FnScope N_is_name ["value"] (defScope s_is_name) := ⟨rfl, rfl, rfl, by decide +kernel, rfl, by decide +kernel, by decide +kernel⟩
theorem sl_is_name (d0 : Dt) : slots N_is_name.length [d0] = [.dat d0, .un] := rfl
theorem ok_is_name {f : Addr} {fd : FuncData} (F : Fun K "is_name" "is_name" s_is_name f fd) (T : Txt K mg C) : FnOk P w K mg base L2.CX0 1 f fd ["value"] (spName K) := by
  refine F.ok sc_is_name (fun vs H Q E h => h.1) (fun cdv A outer s H vs Q E hr h => ?_)
  have hu65 := hr.units65
  refine ⟨_, (pss_cons (ps_if (PW.pt (pw_or (pt_not (pt_val (pe_callB (CallR.wk (r := rIsi) (K := K) call_isi rfl) (by rfl) T.b_isinstance (by decide +kernel) (pa_cons (pv 0) (pa_cons (pe_bltn (v := .ty "str") (u := .type "str") (by rfl) T.b_str (by decide +kernel) rfl) pa_nil))))) (pw_or1 (pt_not (pt_chain op_le op_le pe_int (pe_callB (CallR.wk (r := Pd.rLen) (K := K) callLen rfl) (by rfl) T.b_len PySem.boot_len (pa_cons (pv 0) pa_nil)) (pe_gc (by rfl) T.c_LONGEST)))))) (pss_one (ps_ret pe_bl)) pss_nil)
      (pss_one (ps_ret (pe_and (pe_cmpR (OpR.wk (r := rInA) (K := K) (opIn hu65) rfl) (pe_ix (IxR.wk (r := rIx) (K := K) ix_seq rfl) (pv 0) pe_int (fun _ _ => rfl)) (pe_gc (by rfl) T.c_LETTERS) (by rfl)) (pe_one (pe_callB (CallR.wk (r := rAll) (K := K) (cr_all rfl) rfl) (by rfl) T.b_all (by decide +kernel) (pa_cons (pe_lc (own := [("sign", 1)]) (by rfl) sc_is_name.nd (pi_str (pv 0)) (blkOk_by (own := [("sign", 1)]) (N := N_is_name) (sc := defScope s_is_name) (by decide +kernel)) (fun _ _ _ _ _ => (pg_name (i := 1) sc_is_name.nd rfl (Or.inl rfl))) (fun _ _ _ _ _ => pts_nil) (fun _ _ _ _ _ => (pe_cmpR (OpR.wk (r := rInA) (K := K) (opIn hu65) rfl) (pv 1) (pe_gc (by rfl) T.c_SIGNS) (by rfl)))) pa_nil))))))), ?_⟩
  try dsimp only [cxOf, Cx.nox]
  refine body_of (N := N_is_name) (fun Γ ds hK hl hp => ?_) h
  subst hK
  obtain ⟨d, rfl, hd⟩ := hp
  rw [sl_is_name]
  rcases hd with ⟨z, rfl, hz⟩ | ⟨t, ht, hk, hn⟩
  · walk_at "pr"
    refine cd_isi (b := true) rfl (by decide +kernel) ?_
    walk_at "pr"
    refine ⟨fun h1 => ?_, fun h1 => ?_⟩
    · walk_at "pr"
      refine ⟨fun h2 => ?_, fun h2 => ?_⟩
      · walk_at "pr"
        intro d e
        cases e
        exact congrArg Dt.bl (nameOk_no (by simp at h2; omega)).symm
      · have hr' : 1 ≤ (z.length : Int) ∧ (z.length : Int) ≤ 8 := ⟨of_decide_eq_true h1, by simp at h2; omega⟩
        walk_at "pr"
        obtain ⟨c, r, hc⟩ : ∃ c r, z.cps.toList = c :: r := by
          cases q : z.cps.toList with
          | nil => rw [len_cps, q] at hr'; simp at hr'
          | cons c r => exact ⟨c, r, rfl⟩
        refine od_ixSi (j := 0) (c := c) rfl (by omega) (by rw [hc]; rfl) ?_
        walk_at "pr"
        refine od_inSign ?_
        walk_at "pr"
        refine ⟨fun h3 => ?_, fun h3 => ?_⟩
        · walk_at "pr"
          refine NL.ed (nl_lcMap (α := Nat) (js := [1]) (by decide) (wd_str ?_))
          walk_at "pr"
          refine ⟨by show (z.cps.toList.map _).length ≤ 100000; rw [List.length_map, ← len_cps]; omega, z.cps.toList, fun c => .str ⟨#[c]⟩, fun c => .bl (decide (c ∈ signsS.cps.toList)), rfl, fun c _ => ?_, ?_⟩
          · walk_at "pr"
            refine od_inSign ?_
            rfl
          · walk_at "pr"
            have em : z.cps.toList.map (fun c => Dt.bl (decide (c ∈ signsS.cps.toList))) = (z.cps.toList.map fun c => decide (c ∈ signsS.cps.toList)).map Dt.bl := by rw [List.map_map]; rfl
            rw [em]
            refine cd_all ?_
            intro d e
            cases e
            exact congrArg Dt.bl ((nameOk_cons hr' hc).trans (by rw [show decide (c ∈ lettersS.cps.toList) = true from h3, Bool.true_and])).symm
        · intro d e
          cases e
          exact congrArg Dt.bl ((nameOk_cons hr' hc).trans (by rw [show decide (c ∈ lettersS.cps.toList) = false from h3, Bool.false_and])).symm
    · walk_at "pr"
      intro d e
      cases e
      exact congrArg Dt.bl (nameOk_no (by simp at h1; omega)).symm
  · walk_at "pr"
    refine cd_isi ht hk ?_
    walk_at "pr"
    intro d' e
    cases e
    rw [hn]

/-! ### _law_name -/
/-- a name of at most n signs -/
def Nm (n : Nat) (z : Str) : Prop := ∃ c r, z.cps.toList = c :: r ∧ c ∈ lettersS.cps.toList ∧ (∀ d ∈ z.cps.toList, d ∈ signsS.cps.toList) ∧ z.cps.toList.length ≤ n
theorem Nm.mono {n m : Nat} {z : Str} (h : Nm n z) (hnm : n ≤ m) : Nm m z := by
  obtain ⟨c, r, h1, h2, h3, h4⟩ := h
  exact ⟨c, r, h1, h2, h3, Nat.le_trans h4 hnm⟩
theorem Nm.len {n : Nat} {z : Str} (h : Nm n z) : z.length ≤ n := by
  obtain ⟨c, r, h1, h2, h3, h4⟩ := h
  rw [len_cps]
  exact h4
theorem Nm.ok {z : Str} (h : Nm 8 z) : nameOk z = true := by
  obtain ⟨c, r, h1, h2, h3, h4⟩ := h
  have hl : 1 ≤ (z.length : Int) ∧ (z.length : Int) ≤ 8 := by
    rw [len_cps]
    have : 1 ≤ z.cps.toList.length := by rw [h1]; simp
    omega
  rw [nameOk_cons hl h1, decide_eq_true h2, Bool.true_and]
  rw [List.all_map]
  exact List.all_eq_true.mpr fun d hd => by simpa using h3 d hd
theorem cps_app (x y : Str) : (x ++ y).cps.toList = x.cps.toList ++ y.cps.toList := by
  show (x.cps ++ y.cps).toList = _
  rw [Array.toList_append]
theorem Nm.app {n : Nat} {z : Str} {c : Nat} (h : Nm n z) (hc : c ∈ signsS.cps.toList) : Nm (n + 1) (z ++ ⟨#[c]⟩) := by
  obtain ⟨b, r, h1, h2, h3, h4⟩ := h
  refine ⟨b, r ++ [c], ?_, h2, fun d hd => ?_, ?_⟩
  · rw [cps_app, h1]
    rfl
  · rw [cps_app] at hd
    rcases List.mem_append.mp hd with hd | hd
    · exact h3 d hd
    · rw [List.mem_singleton.mp (show d ∈ [c] from hd)]
      exact hc
  · rw [cps_app, List.length_append]
    exact Nat.succ_le_succ h4
theorem letters_signs : ∀ c ∈ lettersS.cps.toList, c ∈ signsS.cps.toList := by decide +kernel
theorem Nm.one {c : Nat} (hc : c ∈ lettersS.cps.toList) : Nm 1 ⟨#[c]⟩ := ⟨c, [], rfl, hc, fun d hd => by
  rw [List.mem_singleton.mp (show d ∈ [c] from hd)]
  exact letters_signs c hc, Nat.le_refl 1⟩
theorem od_ixM {W : Wo} {Pq : Dt → Prop} {z : Str} {j : Nat} (hz : z.length ≤ 100000) (hj : (j : Int) < (z.length : Int)) (h : ∀ c, c ∈ z.cps.toList → Pq (.str ⟨#[c]⟩)) : OD W (rIx W.K) (.str z) (.int (j : Int)) Pq := by
  have hj' : j < z.cps.toList.length := by rw [← len_cps]; omega
  exact od_ixS hz (List.getElem?_eq_getElem hj') (h _ (List.getElem_mem hj'))
abbrev s__law_name : Stmt := top 25
abbrev N__law_name : List Str := ["_law_pool_here", "_law_fewest", "_law_most", "_law_letters", "_law_found", "_law_turn"]
theorem sc__law_name : FnScope N__law_name ["_law_pool_here", "_law_fewest", "_law_most"] (defScope s__law_name) := ⟨rfl, rfl, rfl, by decide +kernel, rfl, by decide +kernel, by decide +kernel⟩
theorem sl__law_name (d0 d1 d2 : Dt) : slots N__law_name.length [d0, d1, d2] = [.dat d0, .dat d1, .dat d2, .un, .un, .un] := rfl
def preLName : Wo → List Dt → Prop := fun W ds => ∃ (d : Dt) (a b : Nat), ds = [d, .int (a : Int), .int (b : Int)] ∧ PreStk W d ∧ 1 ≤ a ∧ a ≤ b ∧ b ≤ 20
def resLName : List Dt → Dt → Prop := fun ds r => ∀ (d : Dt) (a b : Nat), ds = [d, .int (a : Int), .int (b : Int)] → ∃ z, r = .str z ∧ Nm b z
abbrev spLName (K : PySem.W.Frag) : Sp := spW K 3 preLName resLName
theorem ok_name {f : Addr} {fd : FuncData} (F : Fun K "_law_name" "_law_name" s__law_name f fd) (T : Txt K mg C) (c__law_draw : Cl P w K mg base 1 "_law_draw" (spDraw K)) : FnOk P w K mg base L2.CX0 2 f fd ["_law_pool_here", "_law_fewest", "_law_most"] (spLName K) := by
  refine F.ok sc__law_name (fun vs H Q E h => h.1) (fun cdv A outer s H vs Q E hr h => ?_)
  have hu65 := hr.units65
  refine ⟨_, (pss_cons (ps_set (i := 3) sc__law_name.nd rfl (Or.inl rfl) pe_str)
      (pss_cons (ps_set (i := 4) sc__law_name.nd rfl (Or.inl rfl) (pe_ix (IxR.wk (r := rIx) (K := K) ix_seq rfl) (pv 3) (pe_cl c__law_draw hr (by decide) (by rfl) (pa_cons (pv 0) (pa_cons pe_int pa_nil))) (fun _ _ => rfl)))
      (pss_cons (ps_for PassesOwn.never rfl (pi_range1 (by rfl) T.b_range (pa_cons (pe_op (OpR.wk (r := rAddA) (K := K) opAdd rfl) (pe_op op_sub (pv 1) pe_int) (pe_cl c__law_draw hr (by decide) (by rfl) (pa_cons (pv 0) (pa_cons (pe_op (OpR.wk (r := rAddA) (K := K) opAdd rfl) (pe_op op_sub (pv 2) (pv 1)) pe_int) pa_nil)))) pa_nil)) (pg_name (i := 5) sc__law_name.nd rfl (Or.inl rfl)) (pss_one (ps_set (i := 4) sc__law_name.nd rfl (Or.inl rfl) (pe_op (OpR.wk (r := rAddA) (K := K) opAdd rfl) (pv 4) (pe_ix (IxR.wk (r := rIx) (K := K) ix_seq rfl) (pe_op (OpR.wk (r := rAddA) (K := K) opAdd rfl) (pv 3) pe_str) (pe_cl c__law_draw hr (by decide) (by rfl) (pa_cons (pv 0) (pa_cons pe_int pa_nil))) (fun _ _ => rfl))))))
      (pss_one (ps_ret (pv 4)))))), ?_⟩
  try dsimp only [cxOf, Cx.nox]
  refine body_of (N := N__law_name) (fun Γ ds hK hl hp => ?_) h
  subst hK
  obtain ⟨d, a, b, rfl, hS, ha, hab, hb⟩ := hp
  rw [sl__law_name]
  walk_at "pr"
  refine ed_draw rfl hS ?_
  walk_at "pr"
  refine ⟨by decide, by decide, fun k hk => ?_⟩
  refine od_ixM (by decide +kernel) (by have e : (lettersS.length : Int) = 26 := by decide +kernel
                                        show (k : Int) < (lettersS.length : Int)
                                        omega) fun c hc => ?_
  walk_at "pr"
  refine sd_for (js := [5]) (wd_range1 ?_)
  walk_at "pr"
  refine ed_draw rfl hS ?_
  walk_at "pr"
  refine ⟨by omega, by have e : (2 : Int) ^ 200 > 1000 := by decide
                       omega, fun m hm => ?_⟩
  walk_at "pr"
  refine ⟨by omega, by omega, ?_⟩
  refine ⟨fun i δ' => ∃ (z : Str) (t : Sl), δ' = [.dat d, .dat (.int (a : Int)), .dat (.int (b : Int)), .dat (.str lettersS), .dat (.str z), t] ∧ Nm (i + 1) z, ⟨_, _, rfl, .one hc⟩, ?_, ?_⟩
  · rintro i x δ' hx ⟨z, t, rfl, hz⟩
    obtain ⟨hi, rfl⟩ := upto_get hx
    have hzl := hz.len
    walk_at "pr"
    refine od_addS (by decide +kernel) ?_
    walk_at "pr"
    refine ed_draw rfl hS ?_
    walk_at "pr"
    refine ⟨by decide, by decide, fun k hk => ?_⟩
    have es : (lettersS ++ ("0123456789" : Str)) = signsS := by decide +kernel
    have es2 : (signsS.length : Int) = 36 := by decide +kernel
    show OD _ _ (.str (lettersS ++ ("0123456789" : Str))) _ _
    rw [es]
    refine od_ixM (by decide +kernel) (by omega) fun c hc => ?_
    refine od_addS (by show z.length + 1 ≤ 100000; omega) ?_
    exact ⟨_, _, rfl, hz.app hc⟩
  · rintro δ' ⟨z, t, rfl, hz⟩
    rw [upto_len] at hz
    walk_at "pr"
    intro d' a' b' e
    simp only [List.cons.injEq, Dt.int.injEq] at e
    obtain ⟨_, e1, e2, _⟩ := e
    refine ⟨z, rfl, hz.mono ?_⟩
    omega
theorem ed_name {Γ : Cn} {δ : List Sl} {Pq : Dt → Prop} {i : Nat} {d : Dt} {x y : Int} {a b : Nat} (hx : x = (a : Int)) (hy : y = (b : Int)) (hd : δ[i]? = some (.dat d)) (hS : PreStk Γ.W d) (h1 : 1 ≤ a) (h2 : a ≤ b) (h3 : b ≤ 20) (h : ∀ z, Nm b z → Pq (.str z)) :
    ED Γ (tCall (spLName Γ.W.K) [] L2.E0 (tCons (tVar i) (tCons (tC (.int x)) (tCons (tC (.int y)) tNil)))) δ Pq := by
  subst hx hy
  exact ed_call (ad_cons (ed_var hd (ad_cons (ed_int (ad_cons (ed_int (ad_nil ⟨rfl, ⟨d, a, b, rfl, hS, h1, h2, h3⟩, fun r hr => by
    obtain ⟨z, rfl, hz⟩ := hr d a b rfl
    exact h z hz⟩)))))))

end
end Pd.K31

set_option Elab.async false
set_option linter.all false
set_option maxRecDepth 100000
set_option maxHeartbeats 4000000
namespace Pd.K31
open PySem PySem.Spec PyProof.Rows L2 Pd
local macro_rules | `(tactic| walk_at "p0") => `(tactic| first
  | with_reducible refine sd_seq ?_ | with_reducible refine sd_ret ?_ | with_reducible refine sd_if ?_ | with_reducible refine sd_asgNil ?_ | with_reducible refine sd_asg ?_ | with_reducible refine sd_next ?_ | with_reducible refine sd_parD ?_ | with_reducible refine sd_par3 ?_
  | ((with_reducible refine' ed_var ?hv ?_); (case hv => rfl)) | with_reducible refine ed_int ?_ | with_reducible refine ed_str ?_ | with_reducible refine ed_bl ?_ | with_reducible refine ed_non ?_ | with_reducible refine ed_raw ?_
  | with_reducible refine ed_op ?_ | with_reducible refine ed_cb ?_ | with_reducible refine ra_cons ?_ | with_reducible refine ra_nil ?_ | with_reducible refine ad_cons ?_ | with_reducible refine ad_nil ?_ | with_reducible refine ed_chain ?_ | with_reducible refine ed_neg ?_
  | with_reducible refine td_test ?_ | with_reducible refine td_B ?_ | with_reducible refine td_not ?_ | with_reducible refine td_and ?_ | with_reducible refine td_or ?_ | with_reducible refine ed_andV ?_ | with_reducible refine ed_orV ?_ | with_reducible refine ed_notV ?_ | with_reducible refine ed_if ?_
  | with_reducible refine ED.rd ?_ | with_reducible refine gd_name ?_ | with_reducible refine op_none ?_ | with_reducible refine op_some ?_
  | with_reducible refine od_addI ?_ | with_reducible refine od_subI ?_ | with_reducible refine od_lt ?_ | with_reducible refine od_le ?_ | with_reducible refine od_gt ?_ | with_reducible refine od_ge ?_ | with_reducible refine od_eqI ?_ | with_reducible refine od_neI ?_ | with_reducible refine od_eqS ?_ | with_reducible refine od_neS ?_
  | with_reducible refine cd_int ?_ | with_reducible refine cd_abs ?_ | with_reducible refine cd_max2 ?_ | with_reducible refine cd_min2 ?_ | with_reducible refine cd_lenScr ?_ | ((with_reducible refine cd_lenS ?hz ?_); (case hz => first | decide | omega)) | with_reducible refine cd_lenL ?_ | with_reducible refine cd_lenT ?_
  | with_reducible refine ⟨_, rfl, ?_⟩
  | dsimp only [List.set_cons_zero, List.set_cons_succ]
  | refine ⟨fun _ => ?_, fun z => Bool.noConfusion z⟩ | refine ⟨fun z => Bool.noConfusion z, fun _ => ?_⟩)
local macro_rules | `(tactic| walk_at "p1") => `(tactic| first
  | ((with_reducible refine' ed_stk ?hd ?hM ?hJ ?hz ?hj ?_); (case hd => rfl); (case hM => assumption); (case hJ => assumption); (case hz => first | exact (rfl : (0 : Int) = ((0 : Nat) : Int)) | exact (rfl : (1 : Int) = ((1 : Nat) : Int)) | exact (rfl : (2 : Int) = ((2 : Nat) : Int))); (case hj => decide); intro x hx; (try have hx0 := hx.1 rfl); (try have hx1 := hx.2 rfl))
  | walk_at "p0"
  | ((with_reducible refine od_mod ?hc ?_); (case hc => first | decide | omega))
  | ((with_reducible refine od_mulI ?hc ?_); (case hc => first | exact .inl ⟨by decide, by decide⟩ | exact .inr ⟨by decide, by decide⟩ | exact .inl ⟨by omega, by omega⟩ | exact .inr ⟨by omega, by omega⟩))
  | ((with_reducible refine od_div ?hc ?_); (case hc => first | exact wide_div (b := 10) (by decide) (by decide) (by decide) (by decide) | exact wide_div (b := 10) (by omega) (by omega) (by decide) (by decide)))
  | ((with_reducible refine od_pow ?hc ?_); (case hc => exact ⟨by decide, by decide, by decide⟩)))
local macro_rules | `(tactic| walk_at "pr") => `(tactic| repeat walk_at "p1")

section
variable {P : Program} {w : World} {K : PySem.W.Frag} {mg : Str → Option Value} {base : Heap} {C : Addr}
/-! ### _law_pages -/
abbrev s__law_pages : Stmt := top 27
abbrev N__law_pages : List Str := ["_law_pool_here", "_law_many", "_law_wanted", "_law_left", "_law_found", "_law_turn"]
theorem sc__law_pages : FnScope N__law_pages ["_law_pool_here", "_law_many", "_law_wanted"] (defScope s__law_pages) := ⟨rfl, rfl, rfl, by decide +kernel, rfl, by decide +kernel, by decide +kernel⟩
theorem sl__law_pages (d0 d1 d2 : Dt) : slots N__law_pages.length [d0, d1, d2] = [.dat d0, .dat d1, .dat d2, .un, .un, .un] := rfl
def nat1 (k : Nat) : Dt := .int (k : Int)
def prePages : Wo → List Dt → Prop := fun W ds => ∃ (d : Dt) (n m : Nat), ds = [d, .int (n : Int), .int (m : Int)] ∧ PreStk W d ∧ m ≤ n ∧ n ≤ 1000
def resPages : List Dt → Dt → Prop := fun ds r => ∀ (d : Dt) (n m : Nat), ds = [d, .int (n : Int), .int (m : Int)] → ∃ ns : List Nat, r = .tup (ns.map nat1) ∧ ns.length = m ∧ ns.Nodup ∧ ∀ k ∈ ns, k < n
abbrev spPages (K : PySem.W.Frag) : Sp := spW K 3 prePages resPages
theorem upto_nat (n : Nat) : upto 0 n = (List.range n).map nat1 := by
  unfold upto nat1
  apply List.map_congr_left
  intro a _
  rw [Int.zero_add]
theorem erase_perm {ls : List Nat} {k x : Nat} (h : ls[k]? = some x) : ls.Perm (x :: ls.eraseIdx k) := by
  induction ls generalizing k with
  | nil => simp at h
  | cons y ls ih =>
    cases k with
    | zero =>
      simp at h
      subst h
      exact .refl _
    | succ k =>
      simp at h
      exact ((ih h).cons y).trans (.swap _ _ _)
theorem erase_map {α β : Type} (f : α → β) : ∀ (l : List α) (k : Nat), (l.map f).eraseIdx k = (l.eraseIdx k).map f
  | [], _ => rfl
  | _ :: _, 0 => rfl
  | x :: l, k + 1 => congrArg (f x :: ·) (erase_map f l k)
theorem ok_pages {f : Addr} {fd : FuncData} (F : Fun K "_law_pages" "_law_pages" s__law_pages f fd) (T : Txt K mg C) (c__law_draw : Cl P w K mg base 1 "_law_draw" (spDraw K)) : FnOk P w K mg base L2.CX0 2 f fd ["_law_pool_here", "_law_many", "_law_wanted"] (spPages K) := by
  refine F.ok sc__law_pages (fun vs H Q E h => h.1) (fun cdv A outer s H vs Q E hr h => ?_)
  have hu65 := hr.units65
  refine ⟨_, (pss_cons (ps_par (i := 3) (j := 4) (by rfl) sc__law_pages.nd rfl rfl (by decide) rfl rfl (pa_cons (pe_listRg rfl (by rfl) T.b_list (prg_1 (by rfl) T.b_range (pv 1))) (pa_cons (pe_lst pa_nil) pa_nil)) (by rfl))
      (pss_cons (ps_for PassesOwn.never rfl (pi_range1 (by rfl) T.b_range (pa_cons (pv 2) pa_nil)) (pg_name (i := 5) sc__law_pages.nd rfl (Or.inl rfl)) (pss_one (ps_expr (pe_bm PySem.F.plainAttrs_list PySem.F.slot_list_append PySem.F.type_list_append mt_append (pv 4) (pa_cons (pe_bm PySem.F.plainAttrs_list PySem.F.slot_list_pop PySem.F.type_list_pop mt_popAt (pv 3) (pa_cons (pe_cl c__law_draw hr (by decide) (by rfl) (pa_cons (pv 0) (pa_cons (pe_callB (CallR.wk (r := Pd.rLen) (K := K) callLen rfl) (by rfl) T.b_len PySem.boot_len (pa_cons (pv 3) pa_nil)) pa_nil))) pa_nil)) pa_nil)))))
      (pss_one (ps_ret (pe_callTy (CallR.wk (r := rTupOf) (K := K) callTupOf rfl) (by rfl) T.b_tuple (by decide +kernel) (pa_cons (pv 4) pa_nil)))))), ?_⟩
  try dsimp only [cxOf, Cx.nox]
  refine body_of (N := N__law_pages) (fun Γ ds hK hl hp => ?_) h
  subst hK
  obtain ⟨d, n, m, rfl, hS, hmn, hn⟩ := hp
  rw [sl__law_pages]
  refine sd_seq (sd_par (i := 3) (j := 4) (by decide) (vd_nl (nl_lstRg ?_)))
  walk_at "pr"
  refine ⟨by omega, by omega, vd_nl (nl_lst (ad_nil ⟨by decide, ?_⟩))⟩
  refine sd_seq (sd_for (js := [5]) (wd_range1 ?_))
  walk_at "pr"
  refine ⟨by omega, by omega, ?_⟩
  refine ⟨fun i δ' => ∃ (ns ls : List Nat) (t : Sl), δ' = [.dat d, .dat (.int (n : Int)), .dat (.int (m : Int)), .mu (ls.map nat1), .mu (ns.map nat1), t] ∧ ns.length = i ∧ (ns ++ ls).Perm (List.range n), ⟨[], List.range n, _, by rw [← upto_nat]; rfl, rfl, .refl _⟩, ?_, ?_⟩
  · rintro i x δ' hx ⟨ns, ls, t, rfl, hnl, hperm⟩
    obtain ⟨hi, rfl⟩ := upto_get hx
    have hi' : i < m := by omega
    have hlen : ns.length + ls.length = n := by
      have := hperm.length_eq
      rw [List.length_append, List.length_range] at this
      exact this
    refine gd_name ?_
    refine sd_appPop (i := 4) (j := 3) (by decide) rfl rfl (by rw [List.length_map]; omega) (ed_draw rfl hS (ed_cb (ra_cons (rd_mut rfl (ra_nil (cd_lenL ?_))))))
    rw [List.length_map]
    refine ⟨_, rfl, by omega, by have e : (2 : Int) ^ 200 > 100000 := by decide
                                 omega, fun k hk => ?_⟩
    have hk' : k < ls.length := by omega
    refine ⟨k, nat1 ls[k], rfl, by omega, by rw [List.getElem?_map, List.getElem?_eq_getElem hk']; rfl, ns ++ [ls[k]], ls.eraseIdx k, .dat (.int (0 + (i : Int))), ?_, ?_, ?_⟩
    · rw [List.map_append, ← erase_map]
      rfl
    · rw [List.length_append, hnl]
      rfl
    · refine .trans ?_ hperm
      rw [List.append_assoc]
      exact (erase_perm (List.getElem?_eq_getElem hk')).symm.append_left ns
  · rintro δ' ⟨ns, ls, t, rfl, hnl, hperm⟩
    rw [upto_len] at hnl
    have hm : (m : Int).toNat = m := by omega
    rw [hm] at hnl
    refine sd_ret (ed_cb (ra_cons (rd_mut rfl (ra_nil (cd_tupL ?_)))))
    intro d' n' m' e
    simp only [List.cons.injEq, Dt.int.injEq] at e
    obtain ⟨_, e1, e2, _⟩ := e
    have e1 : n = n' := by omega
    have e2 : m = m' := by omega
    subst e1 e2
    have hnd : (ns ++ ls).Nodup := hperm.nodup_iff.mpr List.nodup_range
    refine ⟨ns, rfl, hnl, (List.nodup_append.mp hnd).1, fun k hk => ?_⟩
    exact List.mem_range.mp (hperm.mem_iff.mp (List.mem_append_left _ hk))

/-! ### is_integer, is_row -/
def isInt : Dt → Bool
  | .int _ => true
  | _ => false
def isIB : Dt → Bool
  | .int _ => true
  | .bl _ => true
  | _ => false
def isBl : Dt → Bool
  | .bl _ => true
  | _ => false
def isTup : Dt → Bool
  | .tup _ => true
  | _ => false
def isRow (n : Nat) : Dt → Bool
  | .tup ds => decide (ds.length = n)
  | _ => false
theorem kit_int {d : Dt} {t : String} (h : tyD d = some t) : kitB t "int" = some (isIB d) := by cases d <;> cases h <;> simp only [isIB, isBl, isTup] <;> decide +kernel
theorem kit_bool {d : Dt} {t : String} (h : tyD d = some t) : kitB t "bool" = some (isBl d) := by cases d <;> cases h <;> simp only [isIB, isBl, isTup] <;> decide +kernel
theorem kit_tup {d : Dt} {t : String} (h : tyD d = some t) : kitB t "tuple" = some (isTup d) := by cases d <;> cases h <;> simp only [isIB, isBl, isTup] <;> decide +kernel
def preAny : Wo → List Dt → Prop := fun _ ds => ∃ d t, ds = [d] ∧ tyD d = some t
abbrev s_is_integer : Stmt := top 2
abbrev N_is_integer : List Str := ["value"]
theorem sc_is_integer : FnScope N_is_integer ["value"] (defScope s_is_integer) := ⟨rfl, rfl, rfl, by decide +kernel, rfl, by decide +kernel, by decide +kernel⟩
theorem sl_is_integer (d0 : Dt) : slots N_is_integer.length [d0] = [.dat d0] := rfl
def resInteger : List Dt → Dt → Prop := fun ds r => ∀ d, ds = [d] → r = .bl (isInt d)
abbrev spInteger (K : PySem.W.Frag) : Sp := spW K 1 preAny resInteger
theorem ok_is_integer {f : Addr} {fd : FuncData} (F : Fun K "is_integer" "is_integer" s_is_integer f fd) (T : Txt K mg C) : FnOk P w K mg base L2.CX0 1 f fd ["value"] (spInteger K) := by
  refine F.ok sc_is_integer (fun vs H Q E h => h.1) (fun cdv A outer s H vs Q E hr h => ?_)
  have hu65 := hr.units65
  refine ⟨_, (pss_one (ps_ret (pe_and (pe_callB (CallR.wk (r := rIsi) (K := K) call_isi rfl) (by rfl) T.b_isinstance (by decide +kernel) (pa_cons (pv 0) (pa_cons (pe_bltn (v := .ty "int") (u := .type "int") (by rfl) T.b_int (by decide +kernel) rfl) pa_nil))) (pe_one (pe_not (pe_callB (CallR.wk (r := rIsi) (K := K) call_isi rfl) (by rfl) T.b_isinstance (by decide +kernel) (pa_cons (pv 0) (pa_cons (pe_bltn (v := .ty "bool") (u := .type "bool") (by rfl) T.b_bool (by decide +kernel) rfl) pa_nil)))))))), ?_⟩
  try dsimp only [cxOf, Cx.nox]
  refine body_of (N := N_is_integer) (fun Γ ds hK hl hp => ?_) h
  subst hK
  obtain ⟨d, t, rfl, ht⟩ := hp
  rw [sl_is_integer]
  walk_at "pr"
  refine cd_isi ht (kit_int ht) ?_
  walk_at "pr"
  refine ⟨fun hb => ?_, fun hb => ?_⟩
  · walk_at "pr"
    refine cd_isi ht (kit_bool ht) ?_
    walk_at "pr"
    intro d' e
    cases e
    cases d <;> first | rfl | cases hb
  · intro d' e
    cases e
    cases d <;> first | rfl | cases hb
theorem ed_integer {Γ : Cn} {δ : List Sl} {Pq : Dt → Prop} {te : TE} (h : ED Γ te δ fun d => ∃ t, tyD d = some t ∧ Pq (.bl (isInt d))) : ED Γ (tCall (spInteger Γ.W.K) [] L2.E0 (tCons te tNil)) δ Pq :=
  ed_call (ad_cons (h.imp fun d ⟨t, ht, p⟩ => ad_nil ⟨rfl, ⟨d, t, rfl, ht⟩, fun r hr => by rw [hr d rfl]; exact p⟩))
abbrev s_is_row : Stmt := top 14
abbrev N_is_row : List Str := ["value", "length"]
theorem sc_is_row : FnScope N_is_row ["value", "length"] (defScope s_is_row) := ⟨rfl, rfl, rfl, by decide +kernel, rfl, by decide +kernel, by decide +kernel⟩
theorem sl_is_row (d0 d1 : Dt) : slots N_is_row.length [d0, d1] = [.dat d0, .dat d1] := rfl
def preRow : Wo → List Dt → Prop := fun _ ds => ∃ (d : Dt) (t : String) (n : Nat), ds = [d, .int (n : Int)] ∧ tyD d = some t
def resRow : List Dt → Dt → Prop := fun ds r => ∀ (d : Dt) (n : Nat), ds = [d, .int (n : Int)] → r = .bl (isRow n d)
abbrev spRow (K : PySem.W.Frag) : Sp := spW K 2 preRow resRow
theorem ok_is_row {f : Addr} {fd : FuncData} (F : Fun K "is_row" "is_row" s_is_row f fd) (T : Txt K mg C) : FnOk P w K mg base L2.CX0 1 f fd ["value", "length"] (spRow K) := by
  refine F.ok sc_is_row (fun vs H Q E h => h.1) (fun cdv A outer s H vs Q E hr h => ?_)
  have hu65 := hr.units65
  refine ⟨_, (pss_one (ps_ret (pe_and (pe_callB (CallR.wk (r := rIsi) (K := K) call_isi rfl) (by rfl) T.b_isinstance (by decide +kernel) (pa_cons (pv 0) (pa_cons (pe_bltn (v := .ty "tuple") (u := .type "tuple") (by rfl) T.b_tuple (by decide +kernel) rfl) pa_nil))) (pe_one (pe_cmpR (OpR.wk (r := rEqA) (K := K) (opEq hr.units) rfl) (pe_callB (CallR.wk (r := Pd.rLen) (K := K) callLen rfl) (by rfl) T.b_len PySem.boot_len (pa_cons (pv 0) pa_nil)) (pv 1) (nomark _)))))), ?_⟩
  try dsimp only [cxOf, Cx.nox]
  refine body_of (N := N_is_row) (fun Γ ds hK hl hp => ?_) h
  subst hK
  obtain ⟨d, t, n, rfl, ht⟩ := hp
  rw [sl_is_row]
  walk_at "pr"
  refine cd_isi ht (kit_tup ht) ?_
  walk_at "pr"
  refine ⟨fun hb => ?_, fun hb => ?_⟩
  · obtain ⟨es, rfl⟩ : ∃ es, d = .tup es := by cases d <;> first | exact ⟨_, rfl⟩ | cases hb
    walk_at "pr"
    intro d' n' e
    simp only [List.cons.injEq, Dt.int.injEq] at e
    obtain ⟨rfl, e1, _⟩ := e
    have e1 : n = n' := by omega
    subst e1
    refine congrArg Dt.bl ?_
    show decide ((es.length : Int) = (n : Int)) = decide (es.length = n)
    by_cases q : es.length = n
    · rw [decide_eq_true q, decide_eq_true (by omega)]
    · rw [decide_eq_false q, decide_eq_false (by omega)]
  · intro d' n' e
    simp only [List.cons.injEq, Dt.int.injEq] at e
    obtain ⟨rfl, e1, _⟩ := e
    cases d <;> first | rfl | cases hb
theorem ed_row {Γ : Cn} {δ : List Sl} {Pq : Dt → Prop} {te : TE} {x : Int} {n : Nat} (hx : x = (n : Int)) (h : ED Γ te δ fun d => ∃ t, tyD d = some t ∧ Pq (.bl (isRow n d))) : ED Γ (tCall (spRow Γ.W.K) [] L2.E0 (tCons te (tCons (tC (.int x)) tNil))) δ Pq := by
  subst hx
  exact ed_call (ad_cons (h.imp fun d ⟨t, ht, p⟩ => ad_cons (ed_int (ad_nil ⟨rfl, ⟨d, t, n, rfl, ht⟩, fun r hr => by rw [hr d n rfl]; exact p⟩))))
theorem ed_isname {Γ : Cn} {δ : List Sl} {Pq : Dt → Prop} {te : TE} (h : ED Γ te δ fun d => Thing d ∧ Pq (.bl (isName d))) : ED Γ (tCall (spName Γ.W.K) [] L2.E0 (tCons te tNil)) δ Pq :=
  ed_call (ad_cons (h.imp fun d ⟨ht, p⟩ => ad_nil ⟨rfl, ⟨d, rfl, ht⟩, fun r hr => by rw [hr d rfl]; exact p⟩))

/-! ### _law_integer -/
abbrev s__law_integer : Stmt := top 28
abbrev N__law_integer : List Str := ["_law_pool_here", "_law_way", "_law_far"]
theorem sc__law_integer : FnScope N__law_integer ["_law_pool_here"] (defScope s__law_integer) := ⟨rfl, rfl, rfl, by decide +kernel, rfl, by decide +kernel, by decide +kernel⟩
theorem sl__law_integer (d0 : Dt) : slots N__law_integer.length [d0] = [.dat d0, .un, .un] := rfl
def Sm (x : Int) : Prop := -(2 ^ 140) < x ∧ x < 2 ^ 140
def preStk1 : Wo → List Dt → Prop := fun W ds => ∃ d, ds = [d] ∧ PreStk W d
def resSm : List Dt → Dt → Prop := fun _ r => ∃ x : Int, r = .int x ∧ Sm x
abbrev spInt (K : PySem.W.Frag) : Sp := spW K 1 preStk1 resSm
theorem ok_integer {f : Addr} {fd : FuncData} (F : Fun K "_law_integer" "_law_integer" s__law_integer f fd) (T : Txt K mg C) (c__law_draw : Cl P w K mg base 1 "_law_draw" (spDraw K)) : FnOk P w K mg base L2.CX0 2 f fd ["_law_pool_here"] (spInt K) := by
  refine F.ok sc__law_integer (fun vs H Q E h => h.1) (fun cdv A outer s H vs Q E hr h => ?_)
  have hu65 := hr.units65
  refine ⟨_, (pss_cons (ps_set (i := 1) sc__law_integer.nd rfl (Or.inl rfl) (pe_cl c__law_draw hr (by decide) (by rfl) (pa_cons (pv 0) (pa_cons pe_int pa_nil))))
      (pss_cons (ps_if (pt_cmpR op_lt (pv 1) pe_int (nomark _)) (pss_one (ps_ret (pe_ifExp (pt_cmpR op_gt (pv 1) pe_int (nomark _)) (pe_op op_sub (pe_cl c__law_draw hr (by decide) (by rfl) (pa_cons (pv 0) (pa_cons pe_int pa_nil))) pe_int) pe_int))) pss_nil)
      (pss_cons (ps_set (i := 2) sc__law_integer.nd rfl (Or.inl rfl) (pe_ix (IxR.wk (r := rIx) (K := K) ix_seq rfl) (pe_lst (pa_cons pe_int (pa_cons (pe_un un_neg pe_int) (pa_cons (pe_op op_pow pe_int pe_int) (pa_cons (pe_un un_neg (pe_op op_pow pe_int pe_int)) pa_nil))))) (pe_cl c__law_draw hr (by decide) (by rfl) (pa_cons (pv 0) (pa_cons pe_int pa_nil))) (fun _ _ => rfl)))
      (pss_one (ps_ret (pe_ifExp (pt_cmpR (OpR.wk (r := rEqA) (K := K) (opEq hr.units) rfl) (pv 1) pe_int (nomark _)) (pe_op (OpR.wk (r := rAddA) (K := K) opAdd rfl) (pv 2) (pe_cl c__law_draw hr (by decide) (by rfl) (pa_cons (pv 0) (pa_cons (pe_op op_pow pe_int pe_int) pa_nil)))) (pe_op op_sub (pv 2) (pe_cl c__law_draw hr (by decide) (by rfl) (pa_cons (pv 0) (pa_cons (pe_op op_pow pe_int pe_int) pa_nil)))))))))), ?_⟩
  try dsimp only [cxOf, Cx.nox]
  refine body_of (N := N__law_integer) (fun Γ ds hK hl hp => ?_) h
  subst hK
  obtain ⟨d, rfl, hS⟩ := hp
  rw [sl__law_integer]
  have p140 : (2 : Int) ^ 140 > 2 * 10 ^ 39 := by decide +kernel
  have p200 : (2 : Int) ^ 200 > 2 * 10 ^ 39 := by decide +kernel
  have p39 : (10 : Int) ^ 39 > 2 * 10 ^ 30 := by decide +kernel
  have p30 : (10 : Int) ^ 30 > 2 * 10 ^ 12 := by decide +kernel
  have p12 : (10 : Int) ^ 12 > 1000 := by decide +kernel
  walk_at "pr"
  refine ed_draw rfl hS ?_
  walk_at "pr"
  refine ⟨by decide, by decide, fun k hk => ?_⟩
  walk_at "pr"
  refine ⟨fun h1 => ?_, fun h1 => ?_⟩
  · walk_at "pr"
    refine ⟨fun h2 => ?_, fun h2 => ?_⟩
    · walk_at "pr"
      refine ed_draw rfl hS ?_
      walk_at "pr"
      refine ⟨by decide, by decide, fun j hj => ?_⟩
      walk_at "pr"
      exact ⟨_, rfl, by omega, by omega⟩
    · walk_at "pr"
      exact ⟨_, rfl, by omega, by omega⟩
  · walk_at "pr"
    refine NL.ed (nl_lst ?_)
    walk_at "pr"
    refine ⟨by show 4 ≤ 100000; decide, ?_⟩
    walk_at "pr"
    refine ed_draw rfl hS ?_
    walk_at "pr"
    refine ⟨by decide, by decide, fun j hj => ?_⟩
    obtain ⟨m, hm, hb⟩ : ∃ m : Int, ([Dt.int 1, Dt.int (-1), Dt.int (10 ^ (39 : Int).toNat), Dt.int (-10 ^ (39 : Int).toNat)] : List Dt)[j]? = some (.int m) ∧ (-(10 ^ 39) ≤ m ∧ m ≤ 10 ^ 39) := by
      match j, hj with
      | 0, _ => exact ⟨1, rfl, by decide +kernel, by decide +kernel⟩
      | 1, _ => exact ⟨-1, rfl, by decide +kernel, by decide +kernel⟩
      | 2, _ => exact ⟨_, rfl, by decide +kernel, by decide +kernel⟩
      | 3, _ => exact ⟨_, rfl, by decide +kernel, by decide +kernel⟩
      | j + 4, h => exact absurd h (by omega)
    refine od_ixL hm ?_
    walk_at "pr"
    refine ⟨fun h2 => ?_, fun h2 => ?_⟩
    · walk_at "pr"
      refine ed_draw rfl hS ?_
      walk_at "pr"
      have e30 : (10 : Int) ^ (30 : Int).toNat = 10 ^ 30 := rfl
      rw [e30]
      refine ⟨by omega, by omega, fun l hl => ?_⟩
      walk_at "pr"
      exact ⟨_, rfl, by omega, by omega⟩
    · walk_at "pr"
      refine ed_draw rfl hS ?_
      walk_at "pr"
      have e12 : (10 : Int) ^ (12 : Int).toNat = 10 ^ 12 := rfl
      rw [e12]
      refine ⟨by omega, by omega, fun l hl => ?_⟩
      walk_at "pr"
      exact ⟨_, rfl, by omega, by omega⟩
end
end Pd.K31

set_option Elab.async false
set_option linter.all false
set_option maxRecDepth 100000
set_option maxHeartbeats 2000000
/-! plain facts about sorting -/
namespace Pd
open PySem PySem.Spec PyProof.Rows L2
theorem perm_sorted {α : Type} {le : α → α → Bool} (anti : ∀ a b, le a b = true → le b a = true → a = b) : ∀ {l m : List α}, l.Pairwise (fun a b => le a b = true) → m.Pairwise (fun a b => le a b = true) → l.Perm m → l = m
  | [], m, _, _, h => h.symm.eq_nil.symm
  | x :: l, [], _, _, h => absurd h.length_eq (by simp)
  | x :: l, y :: m, hl, hm, h => by
    have hx := List.pairwise_cons.mp hl
    have hy := List.pairwise_cons.mp hm
    have e : x = y := by
      rcases List.mem_cons.mp (h.mem_iff.mp List.mem_cons_self) with e | h1
      · exact e
      · rcases List.mem_cons.mp (h.mem_iff.mpr List.mem_cons_self) with e | h2
        · exact e.symm
        · exact anti x y (hx.1 y h2) (hy.1 x h1)
    subst e
    rw [perm_sorted anti hx.2 hy.2 h.cons_inv]
abbrev srt {β : Type} (enc : β → PyData) (l : List β) : List β := l.mergeSort (PySem.W.dataLe false enc)
theorem srt_pairwise {β : Type} (enc : β → PyData) (l : List β) : (srt enc l).Pairwise (fun a b => PySem.W.dataLe false enc a b = true) := PySem.W.sort_pairwise (PySem.W.sortLe_total _ _ _) l
theorem srt_perm {β : Type} (enc : β → PyData) (l : List β) : (srt enc l).Perm l := List.mergeSort_perm _ _
theorem le_anti {β : Type} {enc : β → PyData} (inj : ∀ a b, PySem.W.keyToks (enc a) = PySem.W.keyToks (enc b) → a = b) (a b : β) (h1 : PySem.W.dataLe false enc a b = true) (h2 : PySem.W.dataLe false enc b a = true) : a = b := by
  have h1' : (!PyProof.Rows.lexLt itemOrd (PySem.W.keyToks (enc b)) (PySem.W.keyToks (enc a))) = true := h1
  have h2' : (!PyProof.Rows.lexLt itemOrd (PySem.W.keyToks (enc a)) (PySem.W.keyToks (enc b))) = true := h2
  rw [Bool.not_eq_true'] at h1' h2'
  exact inj a b ((listOrd itemOrd).total _ _ h2' h1')
/-- sorting depends on what is in the list alone -/
theorem srt_eq {β : Type} {enc : β → PyData} (inj : ∀ a b, PySem.W.keyToks (enc a) = PySem.W.keyToks (enc b) → a = b) {l m : List β} (h : l.Perm m) : srt enc l = srt enc m :=
  perm_sorted (le_anti inj) (srt_pairwise enc l) (srt_pairwise enc m) (((srt_perm enc l).trans h).trans (srt_perm enc m).symm)
end Pd
namespace Pd
open PySem PySem.Spec PyProof.Rows L2
theorem cut_to {α : Type} (xs : List α) (k : Nat) (x : Int) (hx : x = (k : Int)) : cutD xs none (some x) = xs.take k := by
  subst hx
  unfold cutD
  rw [HT.sIx_none, HT.sIx_nat, List.drop_zero, Nat.sub_zero, List.take_eq_take_iff]
  omega
theorem cut_from {α : Type} (xs : List α) (k : Nat) (x : Int) (hx : x = (k : Int)) : cutD xs (some x) none = xs.drop k := by
  subst hx
  unfold cutD
  rw [HT.sIx_none, HT.sIx_nat]
  rcases Nat.lt_or_ge k xs.length with h | h
  · rw [Nat.min_eq_left (Nat.le_of_lt h), List.take_of_length_le (by rw [List.length_drop]; omega)]
  · rw [Nat.min_eq_right h, List.drop_of_length_le (Nat.le_refl _), List.drop_of_length_le h, List.take_nil]
end Pd
namespace Pd
open PySem PySem.Spec PyProof.Rows L2
theorem TD.imp {Γ : Cn} {δ : List Sl} {t : TT} {P P' : Bool → Prop} (h : TD Γ t δ P) (k : ∀ b, P b → P' b) : TD Γ t δ P' := fun G H σ Q at_ q => h G H σ Q at_ fun b G' H' f g p => q b G' H' f g (k b p)
/-- if t: (return ..); what follows is shown once, by what a false t tells -/
theorem sd_guard {Γ : Cn} {δ : List Sl} {D : De} {t : TT} {ts tu : TS} (Φ : Prop) (h : TD Γ t δ fun b => (b = true → SD Γ ts δ { D with nx := fun δ' => SD Γ tu δ' D }) ∧ (b = false → Φ)) (h2 : Φ → SD Γ tu δ D) : SD Γ (tSeq (tIfS t ts tNext) tu) δ D :=
  sd_seq (sd_if (h.imp fun b ⟨p1, p2⟩ => ⟨p1, fun e => sd_next (h2 (p2 e))⟩))
end Pd
namespace Pd
open PySem PySem.Spec PyProof.Rows L2
theorem shown_bound {d : PyData} (hc : d.canLay0 = true) (hi : d.intsShort 200 = true) (hw : d.weight ≤ 40000) : d.shown.length ≤ 10000000 := by
  have h := PyData.shown_le 200 (by decide) d (PyData.leavesShort_of_canLay0 200 d hc hi)
  have : (200 + 2) * d.weight ≤ 202 * 40000 := Nat.mul_le_mul (by decide) hw
  omega
end Pd
namespace Pd
open PySem PySem.Spec PyProof.Rows L2
theorem cd_lstT {W : Wo} {P : Dt → Prop} {ds : List Dt} (p : P (.lst ds)) : CD W (rLstOf W.K) [.tup ds] P := fun G H vs Q g hv k => by
  cases hv with
  | cons r rr =>
    cases rr
    obtain ⟨a, us, rfl, hH, r1⟩ := r.tup
    exact ⟨a, us, rfl, .inr (sqT_mono g.sub hH), fun q hq => k _ _ (upd G q (.lst us)) _ (Fr.new g hq) (g.new hq) (.lst upd_same (r1.mono (same_new (g.gn hq)))) p⟩
theorem cd_lstL {W : Wo} {P : Dt → Prop} {ds : List Dt} (p : P (.lst ds)) : CD W (rLstOf W.K) [.lst ds] P := fun G H vs Q g hv k => by
  cases hv with
  | cons r rr =>
    cases rr
    obtain ⟨a, us, rfl, hH, r1⟩ := r.lst g
    exact ⟨a, us, rfl, .inl (SqL.of hH), fun q hq => k _ _ (upd G q (.lst us)) _ (Fr.new g hq) (g.new hq) (.lst upd_same (r1.mono (same_new (g.gn hq)))) p⟩
end Pd

set_option Elab.async false
set_option linter.all false
set_option maxRecDepth 100000
set_option maxHeartbeats 4000000
namespace Pd.K31
open PySem PySem.Spec PyProof.Rows L2 Pd
/-! ### rows of names and weights -/
abbrev Row := List (Str × Int)
def prD (p : Str × Int) : Dt := .tup [.str p.1, .int p.2]
def enc (p : Str × Int) : PyData := .tuple [.str p.1, .int p.2]
def rowD (r : Row) : Dt := .tup (r.map prD)
def rowP (r : Row) : PyData := .tuple (r.map enc)
def Sw (x : Int) : Prop := -(2 ^ 150) < x ∧ x < 2 ^ 150
structure RowOk (r : Row) : Prop where
  len : r.length ≤ 12
  nd : (r.map Prod.fst).Nodup
  el : ∀ p ∈ r, Nm 8 p.1 ∧ Sw p.2
def nz (p : Str × Int) : Bool := !decide (p.2 = 0)
def ngp (p : Str × Int) : Str × Int := (p.1, -p.2)
def asc (r : Row) : Row := srt enc (r.filter nz)
def opp (r : Row) : Row := r.map ngp
theorem enc_inj (a b : Str × Int) (h : PySem.W.keyToks (enc a) = PySem.W.keyToks (enc b)) : a = b := by
  obtain ⟨a1, a2⟩ := a
  obtain ⟨b1, b2⟩ := b
  simp only [enc, PySem.W.keyToks, PySem.W.keyToksAll, List.cons_append, List.nil_append, List.cons.injEq, Sum.inl.injEq, Sum.inr.injEq, true_and, and_true] at h
  obtain ⟨h1, h2⟩ := h
  rw [PySem.W.str_of_cps h1, h2]
theorem asc_perm (r : Row) : (asc r).Perm (r.filter nz) := srt_perm enc _
theorem RowOk.sub {r s : Row} (h : RowOk r) (hs : s.Sublist r) : RowOk s := ⟨Nat.le_trans hs.length_le h.len, h.nd.sublist (hs.map _), fun p hp => h.el p (hs.subset hp)⟩
theorem RowOk.perm {r s : Row} (h : RowOk r) (hs : s.Perm r) : RowOk s := ⟨by rw [hs.length_eq]; exact h.len, (hs.map Prod.fst).nodup_iff.mpr h.nd, fun p hp => h.el p (hs.mem_iff.mp hp)⟩
theorem RowOk.asc {r : Row} (h : RowOk r) : RowOk (asc r) := (h.sub List.filter_sublist).perm (asc_perm r)
theorem RowOk.opp {r : Row} (h : RowOk r) : RowOk (opp r) := by
  refine ⟨by unfold K31.opp; rw [List.length_map]; exact h.len, ?_, fun p hp => ?_⟩
  · unfold K31.opp
    rw [List.map_map]
    exact h.nd
  · obtain ⟨q, hq, rfl⟩ := List.mem_map.mp hp
    obtain ⟨h1, h2, h3⟩ := h.el q hq
    exact ⟨h1, by show -(2 ^ 150) < -q.2; omega, by show -q.2 < 2 ^ 150; omega⟩
theorem nz_ngp (p : Str × Int) : nz (ngp p) = nz p := by
  unfold nz ngp
  congr 1
  by_cases h : p.2 = 0
  · rw [decide_eq_true h, decide_eq_true (by show -p.2 = 0; omega)]
  · rw [decide_eq_false h, decide_eq_false (by show ¬ -p.2 = 0; omega)]
theorem opp_filter (r : Row) : (opp r).filter nz = opp (r.filter nz) := by
  unfold opp
  rw [List.filter_map]
  congr 1
  apply List.filter_congr
  intro p _
  exact nz_ngp p
theorem opp_perm {r s : Row} (h : r.Perm s) : (opp r).Perm (opp s) := h.map _
theorem asc_eq {r s : Row} (h : (r.filter nz).Perm (s.filter nz)) : asc r = asc s := srt_eq enc_inj h
theorem filter_filter' (r : Row) : (r.filter nz).filter nz = r.filter nz := by
  rw [List.filter_filter]
  congr 1
  funext p
  cases nz p <;> rfl
theorem asc_asc (r : Row) : asc (asc r) = asc r := asc_eq (((asc_perm r).filter nz).trans (by rw [filter_filter']))
theorem asc_opp (r : Row) : asc (opp (asc r)) = asc (opp r) := asc_eq (by
  rw [opp_filter, opp_filter]
  exact opp_perm (((asc_perm r).filter nz).trans (by rw [filter_filter'])))
theorem opp_opp (r : Row) : opp (opp r) = r := by
  unfold opp
  rw [List.map_map]
  conv => rhs; rw [← List.map_id r]
  apply List.map_congr_left
  intro p _
  obtain ⟨a, b⟩ := p
  show (a, - -b) = (a, b)
  rw [Int.neg_neg]
/-! as data -/
theorem toPy_pr (p : Str × Int) : toPy (prD p) = some (enc p) := rfl
theorem toPy_row (r : Row) : toPy (rowD r) = some (rowP r) := by
  show (toPys (r.map prD)).map PyData.tuple = _
  rw [toPys_map (enc := enc) fun c _ => toPy_pr c]
  rfl
theorem eqv_enc (a b : Str × Int) : PyData.eqv (enc a) (enc b) = decide (a = b) := by
  obtain ⟨a1, a2⟩ := a
  obtain ⟨b1, b2⟩ := b
  simp only [enc, PyData.eqv, PyData.eqvAll, Bool.and_true]
  by_cases h : a1 = b1 <;> by_cases h2 : a2 = b2 <;> simp [h, h2]
theorem eqv_rows : ∀ r s : Row, PyData.eqvAll (r.map enc) (s.map enc) = decide (r = s)
  | [], [] => by simp [PyData.eqvAll]
  | [], _ :: _ => by simp [PyData.eqvAll]
  | _ :: _, [] => by simp [PyData.eqvAll]
  | a :: r, b :: s => by
    rw [List.map_cons, List.map_cons, PyData.eqvAll, eqv_enc, eqv_rows r s]
    by_cases h : a = b <;> by_cases h2 : r = s <;> simp [h, h2]
theorem eqv_row (r s : Row) : PyData.eqv (rowP r) (rowP s) = decide (r = s) := by
  unfold rowP
  rw [PyData.eqv, eqv_rows]
theorem strOk_of {n : Nat} {z : Str} (h : Nm n z) : PyData.canLay0 (.str z) = true := by
  obtain ⟨c, r, h1, h2, h3, h4⟩ := h
  rw [PyData.canLay0]
  have all : ∀ c ∈ signsS.cps.toList, c < 0x110000 := by decide +kernel
  unfold PyData.strOk
  rw [← Array.all_toList]
  exact List.all_eq_true.mpr fun d hd => by simpa using all d (h3 d hd)
theorem canLay_row : ∀ {r : Row}, (∀ p ∈ r, Nm 8 p.1 ∧ Sw p.2) → PyData.canLayAll0 (r.map enc) = true
  | [], _ => rfl
  | p :: r, h => by
    rw [List.map_cons, PyData.canLayAll0, canLay_row fun q hq => h q (List.mem_cons_of_mem _ hq), Bool.and_true]
    simp only [enc, PyData.canLay0, PyData.canLayAll0, Bool.and_true]
    exact strOk_of (h p List.mem_cons_self).1
theorem depth_row : ∀ r : Row, PyData.depthAll (r.map enc) ≤ 1
  | [] => by simp [PyData.depthAll]
  | p :: r => by
    have := depth_row r
    rw [List.map_cons, PyData.depthAll]
    have e : (enc p).depth = 1 := by simp [enc, PyData.depth, PyData.depthAll]
    omega
theorem shaped_row {r : Row} (h : RowOk r) : SeqAt.shaped (rowP r) = true := by
  unfold SeqAt.shaped rowP
  rw [PyData.canLay0, canLay_row h.el, Bool.true_and]
  have := depth_row r
  rw [PyData.depth]
  exact decide_eq_true (by omega)
end Pd.K31

set_option Elab.async false
set_option linter.all false
set_option maxRecDepth 100000
set_option maxHeartbeats 4000000
namespace Pd.K31
open PySem PySem.Spec PyProof.Rows L2 Pd
local macro_rules | `(tactic| walk_at "p0") => `(tactic| first
  | with_reducible refine sd_seq ?_ | with_reducible refine sd_ret ?_ | with_reducible refine sd_if ?_ | with_reducible refine sd_asgNil ?_ | with_reducible refine sd_asg ?_ | with_reducible refine sd_next ?_ | with_reducible refine sd_parD ?_ | with_reducible refine sd_par3 ?_
  | ((with_reducible refine' ed_var ?hv ?_); (case hv => rfl)) | with_reducible refine ed_int ?_ | with_reducible refine ed_str ?_ | with_reducible refine ed_bl ?_ | with_reducible refine ed_non ?_ | with_reducible refine ed_raw ?_
  | with_reducible refine ed_op ?_ | with_reducible refine ed_cb ?_ | with_reducible refine ra_cons ?_ | with_reducible refine ra_nil ?_ | with_reducible refine ad_cons ?_ | with_reducible refine ad_nil ?_ | with_reducible refine ed_chain ?_ | with_reducible refine ed_neg ?_
  | with_reducible refine td_test ?_ | with_reducible refine td_B ?_ | with_reducible refine td_not ?_ | with_reducible refine td_and ?_ | with_reducible refine td_or ?_ | with_reducible refine ed_andV ?_ | with_reducible refine ed_orV ?_ | with_reducible refine ed_notV ?_ | with_reducible refine ed_if ?_
  | with_reducible refine ED.rd ?_ | with_reducible refine gd_name ?_ | with_reducible refine op_none ?_ | with_reducible refine op_some ?_
  | with_reducible refine od_addI ?_ | with_reducible refine od_subI ?_ | with_reducible refine od_lt ?_ | with_reducible refine od_le ?_ | with_reducible refine od_gt ?_ | with_reducible refine od_ge ?_ | with_reducible refine od_eqI ?_ | with_reducible refine od_neI ?_ | with_reducible refine od_eqS ?_ | with_reducible refine od_neS ?_
  | with_reducible refine cd_int ?_ | with_reducible refine cd_abs ?_ | with_reducible refine cd_max2 ?_ | with_reducible refine cd_min2 ?_ | with_reducible refine cd_lenScr ?_ | ((with_reducible refine cd_lenS ?hz ?_); (case hz => first | decide | omega)) | with_reducible refine cd_lenL ?_ | with_reducible refine cd_lenT ?_
  | with_reducible refine ⟨_, rfl, ?_⟩
  | dsimp only [List.set_cons_zero, List.set_cons_succ]
  | refine ⟨fun _ => ?_, fun z => Bool.noConfusion z⟩ | refine ⟨fun z => Bool.noConfusion z, fun _ => ?_⟩)
local macro_rules | `(tactic| walk_at "p1") => `(tactic| first
  | ((with_reducible refine' ed_stk ?hd ?hM ?hJ ?hz ?hj ?_); (case hd => rfl); (case hM => assumption); (case hJ => assumption); (case hz => first | exact (rfl : (0 : Int) = ((0 : Nat) : Int)) | exact (rfl : (1 : Int) = ((1 : Nat) : Int)) | exact (rfl : (2 : Int) = ((2 : Nat) : Int))); (case hj => decide); intro x hx; (try have hx0 := hx.1 rfl); (try have hx1 := hx.2 rfl))
  | walk_at "p0"
  | ((with_reducible refine od_mod ?hc ?_); (case hc => first | decide | omega))
  | ((with_reducible refine od_mulI ?hc ?_); (case hc => first | exact .inl ⟨by decide, by decide⟩ | exact .inr ⟨by decide, by decide⟩ | exact .inl ⟨by omega, by omega⟩ | exact .inr ⟨by omega, by omega⟩))
  | ((with_reducible refine od_div ?hc ?_); (case hc => first | exact wide_div (b := 10) (by decide) (by decide) (by decide) (by decide) | exact wide_div (b := 10) (by omega) (by omega) (by decide) (by decide)))
  | ((with_reducible refine od_pow ?hc ?_); (case hc => exact ⟨by decide, by decide, by decide⟩)))
local macro_rules | `(tactic| walk_at "pr") => `(tactic| repeat walk_at "p1")

section
variable {P : Program} {w : World} {K : PySem.W.Frag} {mg : Str → Option Value} {base : Heap} {C : Addr}
def preRowD : Wo → List Dt → Prop := fun _ ds => ∃ r, ds = [rowD r] ∧ RowOk r
/-! ### wrong_weight -/
abbrev s_wrong_weight : Stmt := top 17
abbrev N_wrong_weight : List Str := ["value", "names", "index", "pair"]
theorem sc_wrong_weight : FnScope N_wrong_weight ["value"] (defScope s_wrong_weight) := ⟨rfl, rfl, rfl, by decide +kernel, rfl, by decide +kernel, by decide +kernel⟩
theorem sl_wrong_weight (d0 : Dt) : slots N_wrong_weight.length [d0] = [.dat d0, .un, .un, .un] := rfl
def resM1 : List Dt → Dt → Prop := fun _ r => r = .int (-1)
abbrev spWrong (K : PySem.W.Frag) : Sp := spW K 1 preRowD resM1
theorem names_py (l : List Str) : toPys (l.map Dt.str) = some (l.map PyData.str) := by
  induction l with
  | nil => rfl
  | cons x l ih => rw [List.map_cons, List.map_cons, toPys, ih]; rfl
theorem names_shaped : ∀ {l : List Str}, (∀ z ∈ l, Nm 8 z) → PyData.canLayAll0 (l.map PyData.str) = true
  | [], _ => rfl
  | z :: l, h => by
    rw [List.map_cons, PyData.canLayAll0, strOk_of (h z List.mem_cons_self), names_shaped fun y hy => h y (List.mem_cons_of_mem _ hy)]
    rfl
theorem names_depth : ∀ l : List Str, PyData.depthAll (l.map PyData.str) = 0
  | [] => by simp [PyData.depthAll]
  | z :: l => by
    rw [List.map_cons, PyData.depthAll, names_depth l]
    simp [PyData.depth]
theorem names_in {l : List Str} {z : Str} (h : z ∉ l) : ((l.map PyData.str).any fun y => PyData.eqv y (.str z)) = false := by
  rw [List.any_map]
  rw [Bool.eq_false_iff]
  intro q
  obtain ⟨y, hy, e⟩ := List.any_eq_true.mp q
  simp only [Function.comp, PyData.eqv, beq_iff_eq] at e
  exact h (e ▸ hy)
theorem ok_wrong {f : Addr} {fd : FuncData} (F : Fun K "wrong_weight" "wrong_weight" s_wrong_weight f fd) (T : Txt K mg C) (c_is_row : Cl P w K mg base 1 "is_row" (spRow K)) (c_is_name : Cl P w K mg base 1 "is_name" (spName K)) (c_is_integer : Cl P w K mg base 1 "is_integer" (spInteger K)) : FnOk P w K mg base L2.CX0 2 f fd ["value"] (spWrong K) := by
  refine F.ok sc_wrong_weight (fun vs H Q E h => h.1) (fun cdv A outer s H vs Q E hr h => ?_)
  have hu65 := hr.units65
  refine ⟨_, (pss_cons (ps_if (PW.pt (pw_or (pt_not (pt_val (pe_callB (CallR.wk (r := rIsi) (K := K) call_isi rfl) (by rfl) T.b_isinstance (by decide +kernel) (pa_cons (pv 0) (pa_cons (pe_bltn (v := .ty "tuple") (u := .type "tuple") (by rfl) T.b_tuple (by decide +kernel) rfl) pa_nil))))) (pw_or1 (pt_cmpR op_gt (pe_callB (CallR.wk (r := Pd.rLen) (K := K) callLen rfl) (by rfl) T.b_len PySem.boot_len (pa_cons (pv 0) pa_nil)) (pe_gc (by rfl) T.c_MOST_NAMES) (nomark _))))) (pss_one (ps_ret pe_non)) pss_nil)
      (pss_cons (ps_set (i := 1) sc_wrong_weight.nd rfl (Or.inl rfl) (pe_lst pa_nil))
      (pss_cons (ps_for PassesOwn.never rfl (pi_enumT (K := K) rfl (by rfl) T.b_enumerate (pa_cons (pv 0) pa_nil)) (pg_tupK (K := K) (n := 2) rfl (pgs_cons (pg_name (i := 2) sc_wrong_weight.nd rfl (Or.inl rfl)) (pgs_cons (pg_name (i := 3) sc_wrong_weight.nd rfl (Or.inl rfl)) pgs_nil)) rfl) (pss_cons (ps_if (PW.pt (pw_or (pt_not (pt_val (pe_cl c_is_row hr (by decide) (by rfl) (pa_cons (pv 3) (pa_cons pe_int pa_nil))))) (pw_or (pt_not (pt_val (pe_cl c_is_name hr (by decide) (by rfl) (pa_cons (pe_ix (IxR.wk (r := rIx) (K := K) ix_seq rfl) (pv 3) pe_int (fun _ _ => rfl)) pa_nil)))) (pw_or (pt_cmpR (OpR.wk (r := rInA) (K := K) (opIn hu65) rfl) (pe_ix (IxR.wk (r := rIx) (K := K) ix_seq rfl) (pv 3) pe_int (fun _ _ => rfl)) (pv 1) (by rfl)) (pw_or1 (pt_not (pt_val (pe_cl c_is_integer hr (by decide) (by rfl) (pa_cons (pe_ix (IxR.wk (r := rIx) (K := K) ix_seq rfl) (pv 3) pe_int (fun _ _ => rfl)) pa_nil))))))))) (pss_one (ps_ret (pv 2))) pss_nil)
      (pss_one (ps_expr (pe_bm PySem.F.plainAttrs_list PySem.F.slot_list_append PySem.F.type_list_append mt_append (pv 1) (pa_cons (pe_ix (IxR.wk (r := rIx) (K := K) ix_seq rfl) (pv 3) pe_int (fun _ _ => rfl)) pa_nil))))))
      (pss_one (ps_ret (pe_un un_neg pe_int)))))), ?_⟩
  try dsimp only [cxOf, Cx.nox]
  refine body_of (N := N_wrong_weight) (fun Γ ds hK hl hp => ?_) h
  subst hK
  obtain ⟨r, rfl, hr⟩ := hp
  rw [sl_wrong_weight]
  have hlen := hr.len
  walk_at "pr"
  refine cd_isi (t := "tuple") (b := true) rfl (by decide +kernel) ?_
  walk_at "pr"
  refine cd_lenT ?_
  walk_at "pr"
  rw [List.length_map, decide_eq_false (by omega)]
  walk_at "pr"
  refine sd_for (js := [2] ++ ([3] ++ [])) (wd_enumT ?_)
  walk_at "pr"
  refine ⟨fun i δ' => ∃ b2 b3 : Sl, δ' = [.dat (rowD r), .mu (((r.take i).map Prod.fst).map Dt.str), b2, b3], ⟨_, _, rfl⟩, ?_, ?_⟩
  · rintro i x δ' hx ⟨b2, b3, rfl⟩
    obtain ⟨d, hd, rfl⟩ := enumD_get hx
    rw [List.getElem?_map] at hd
    cases hp : r[i]? with
    | none => rw [hp] at hd; cases hd
    | some p =>
      rw [hp] at hd
      cases hd
      have hpm : p ∈ r := List.mem_of_getElem? hp
      obtain ⟨hN, hS⟩ := hr.el p hpm
      have hi : i < r.length := (List.getElem?_eq_some_iff.mp hp).1
      refine gd_tup ⟨_, rfl, rfl, gds_cons (gd_name (gds_cons (gd_name (gds_nil ?_))))⟩
      walk_at "pr"
      refine ed_row (n := 2) rfl ?_
      walk_at "pr"
      refine ed_isname ?_
      walk_at "pr"
      refine od_ixTi (j := 0) rfl rfl ?_
      refine ⟨.inl ⟨_, rfl, Nat.le_trans hN.len (by decide)⟩, ?_⟩
      rw [show isName (.str p.1) = true from hN.ok]
      walk_at "pr"
      refine od_ixTi (j := 0) rfl rfl ?_
      refine rd_mut rfl ?_
      have hnot : p.1 ∉ (r.take i).map Prod.fst := by
        have h1 : r = r.take i ++ p :: r.drop (i + 1) := by
          conv => lhs; rw [← List.take_append_drop i r]
          rw [List.drop_eq_getElem_cons hi, (List.getElem?_eq_some_iff.mp hp).2]
        have h2 := hr.nd
        rw [h1, List.map_append, List.map_cons] at h2
        intro q
        exact (List.nodup_append.mp h2).2.2 p.1 q p.1 List.mem_cons_self rfl
      have hall : ∀ z ∈ (r.take i).map Prod.fst, Nm 8 z := by
        intro z hz
        obtain ⟨q, hq, rfl⟩ := List.mem_map.mp hz
        exact (hr.el q (List.mem_of_mem_take hq)).1
      refine od_inL (p := .str p.1) (qs := ((r.take i).map Prod.fst).map PyData.str) rfl (names_py _) ?_ ?_ ?_
      · unfold SeqAt.shaped
        rw [strOk_of hN]
        rfl
      · unfold SeqAt.shaped
        rw [PyData.canLay0, names_shaped hall, PyData.depth, names_depth]
        rfl
      rw [names_in hnot]
      walk_at "pr"
      refine ed_integer ?_
      walk_at "pr"
      refine od_ixTi (j := 1) rfl rfl ?_
      walk_at "pr"
      refine sd_app (i := 1) rfl (by rw [List.length_map, List.length_map, List.length_take]; omega) ?_
      walk_at "pr"
      refine od_ixTi (j := 0) rfl rfl ?_
      refine ⟨.dat (.int (i : Int)), .dat (prD p), ?_⟩
      rw [List.take_add_one, hp]
      simp only [Option.toList_some, List.map_append, List.map_cons, List.map_nil]
  · rintro δ' ⟨b2, b3, rfl⟩
    walk_at "pr"
    rfl
/-! ### without_zeros -/
abbrev s_without_zeros : Stmt := top 18
abbrev N_without_zeros : List Str := ["pairs", "name", "weight"]
theorem sc_without_zeros : FnScope N_without_zeros ["pairs"] (defScope s_without_zeros) := ⟨rfl, rfl, rfl, by decide +kernel, rfl, by decide +kernel, by decide +kernel⟩
theorem sl_without_zeros (d0 : Dt) : slots N_without_zeros.length [d0] = [.dat d0, .un, .un] := rfl
def resAsc : List Dt → Dt → Prop := fun ds r => ∀ x, ds = [rowD x] → r = rowD (asc x)
abbrev spZeros (K : PySem.W.Frag) : Sp := spW K 1 preRowD resAsc
theorem alike_enc (a b : Str × Int) : PySem.W.alike (enc a) (enc b) = true := by simp [enc, PySem.W.alike, PySem.W.alikeAll]
theorem depth_enc (a : Str × Int) : (enc a).depth = 1 := by simp [enc, PyData.depth, PyData.depthAll]
theorem prD_inj {a b : Str × Int} (h : prD a = prD b) : a = b := by
  obtain ⟨a1, a2⟩ := a
  obtain ⟨b1, b2⟩ := b
  simp only [prD, Dt.tup.injEq, List.cons.injEq, Dt.str.injEq, Dt.int.injEq, and_true] at h
  rw [h.1, h.2]
theorem map_prD_inj : ∀ {r s : Row}, r.map prD = s.map prD → r = s
  | [], [], _ => rfl
  | [], _ :: _, h => by simp at h
  | _ :: _, [], h => by simp at h
  | a :: r, b :: s, h => by
    rw [List.map_cons, List.map_cons, List.cons.injEq] at h
    rw [prD_inj h.1, map_prD_inj h.2]
theorem rowD_inj {r s : Row} (h : rowD r = rowD s) : r = s := map_prD_inj (Dt.tup.inj h)
/-- sorted(..) of such pairs -/
theorem cd_sortR {W : Wo} {Pq : Dt → Prop} {r : Row} (p : Pq (.lst ((srt enc r).map prD))) : CD W (rSortD W.K) [.lst (r.map prD)] Pq :=
  cd_sort (dt := prD) (enc := enc) (fun c _ => toPy_pr c) (.of alike_enc) (.tuples fun b => ⟨_, _, rfl⟩) (fun c _ => by rw [depth_enc]; decide) p
theorem ok_zeros {f : Addr} {fd : FuncData} (F : Fun K "without_zeros" "without_zeros" s_without_zeros f fd) (T : Txt K mg C) : FnOk P w K mg base L2.CX0 1 f fd ["pairs"] (spZeros K) := by
  refine F.ok sc_without_zeros (fun vs H Q E h => h.1) (fun cdv A outer s H vs Q E hr h => ?_)
  have hu65 := hr.units65
  refine ⟨_, (pss_one (ps_ret (pe_callTy (CallR.wk (r := rTupOf) (K := K) callTupOf rfl) (by rfl) T.b_tuple (by decide +kernel) (pa_cons (pe_callB (CallR.wk (r := rSortD) (K := K) (callSortD hr.units) rfl) (by rfl) T.b_sorted (by decide +kernel) (pa_cons (pe_lc (own := [("name", 1), ("weight", 2)]) (by rfl) sc_without_zeros.nd (pi_tupK (K := K) (pv 0) rfl) (blkOk_by (own := [("name", 1), ("weight", 2)]) (N := N_without_zeros) (sc := defScope s_without_zeros) (by decide +kernel)) (fun _ _ _ _ _ => (pg_tupK (K := K) (n := 2) rfl (pgs_cons (pg_name (i := 1) sc_without_zeros.nd rfl (Or.inl rfl)) (pgs_cons (pg_name (i := 2) sc_without_zeros.nd rfl (Or.inl rfl)) pgs_nil)) rfl)) (fun _ _ _ _ _ => (pts_one (pt_cmpR (OpR.wk (r := rNeA) (K := K) (opNe hr.units) rfl) (pv 2) pe_int (nomark _)))) (fun _ _ _ _ _ => (pe_tup (pa_cons (pv 1) (pa_cons (pv 2) pa_nil))))) pa_nil)) pa_nil)))), ?_⟩
  try dsimp only [cxOf, Cx.nox]
  refine body_of (N := N_without_zeros) (fun Γ ds hK hl hp => ?_) h
  subst hK
  obtain ⟨r, rfl, hr⟩ := hp
  rw [sl_without_zeros]
  have hlen := hr.len
  walk_at "pr"
  refine NL.ed (nl_lc (js := [1] ++ ([2] ++ [])) (by decide) (wd_tup ?_))
  walk_at "pr"
  refine ⟨by rw [List.length_map]; omega, fun i acc => acc = ((r.take i).filter nz).map prD, rfl, ?_, ?_⟩
  · rintro i x acc hx rfl
    rw [List.getElem?_map] at hx
    cases hp : r[i]? with
    | none => rw [hp] at hx; cases hx
    | some p =>
      rw [hp] at hx
      cases hx
      refine gd_tup ⟨_, rfl, rfl, gds_cons (gd_name (gds_cons (gd_name (gds_nil ?_))))⟩
      walk_at "pr"
      have et : r.take (i + 1) = r.take i ++ [p] := by rw [List.take_add_one, hp]; rfl
      refine ⟨fun hb => ?_, fun hb => ?_⟩
      · walk_at "pr"
        refine ed_tup ?_
        walk_at "pr"
        refine ⟨by show 2 ≤ 100000; decide, ?_⟩
        rw [et, List.filter_append, List.map_append]
        have : nz p = true := hb
        rw [List.filter_cons_of_pos this]
        rfl
      · rw [et, List.filter_append]
        have : ¬ nz p = true := by rw [show nz p = false from hb]; decide
        rw [List.filter_cons_of_neg this]
        simp
  · rintro acc ha
    have ha : acc = (r.filter nz).map prD := by rw [ha, List.length_map, List.take_length]
    subst ha
    walk_at "pr"
    refine cd_sortR ?_
    walk_at "pr"
    refine cd_tupL ?_
    intro x e
    simp only [List.cons.injEq, and_true] at e
    rw [← rowD_inj e]
    rfl
theorem ed_zeros {Γ : Cn} {δ : List Sl} {Pq : Dt → Prop} {te : TE} (h : ED Γ te δ fun d => ∃ r, d = rowD r ∧ RowOk r ∧ Pq (rowD (asc r))) : ED Γ (tCall (spZeros Γ.W.K) [] L2.E0 (tCons te tNil)) δ Pq :=
  ed_call (ad_cons (h.imp fun d ⟨r, e, hr, p⟩ => ad_nil ⟨rfl, ⟨r, by rw [e], hr⟩, fun x hx => by rw [hx r (by rw [e])]; exact p⟩))
theorem ed_wrong {Γ : Cn} {δ : List Sl} {Pq : Dt → Prop} {te : TE} (h : ED Γ te δ fun d => ∃ r, d = rowD r ∧ RowOk r ∧ Pq (.int (-1))) : ED Γ (tCall (spWrong Γ.W.K) [] L2.E0 (tCons te tNil)) δ Pq :=
  ed_call (ad_cons (h.imp fun d ⟨r, e, hr, p⟩ => ad_nil ⟨rfl, ⟨r, by rw [e], hr⟩, fun x hx => by rw [show x = .int (-1) from hx]; exact p⟩))
/-! ### opposite -/
abbrev s_opposite : Stmt := top 19
abbrev N_opposite : List Str := ["pairs", "name", "weight"]
theorem sc_opposite : FnScope N_opposite ["pairs"] (defScope s_opposite) := ⟨rfl, rfl, rfl, by decide +kernel, rfl, by decide +kernel, by decide +kernel⟩
theorem sl_opposite (d0 : Dt) : slots N_opposite.length [d0] = [.dat d0, .un, .un] := rfl
def resOpp : List Dt → Dt → Prop := fun ds r => ∀ x, ds = [rowD x] → r = rowD (opp x)
abbrev spOpp (K : PySem.W.Frag) : Sp := spW K 1 preRowD resOpp
theorem ok_opp {f : Addr} {fd : FuncData} (F : Fun K "opposite" "opposite" s_opposite f fd) (T : Txt K mg C) : FnOk P w K mg base L2.CX0 1 f fd ["pairs"] (spOpp K) := by
  refine F.ok sc_opposite (fun vs H Q E h => h.1) (fun cdv A outer s H vs Q E hr h => ?_)
  have hu65 := hr.units65
  refine ⟨_, (pss_one (ps_ret (pe_callTy (CallR.wk (r := rTupOf) (K := K) callTupOf rfl) (by rfl) T.b_tuple (by decide +kernel) (pa_cons (pe_lc (own := [("name", 1), ("weight", 2)]) (by rfl) sc_opposite.nd (pi_tupK (K := K) (pv 0) rfl) (blkOk_by (own := [("name", 1), ("weight", 2)]) (N := N_opposite) (sc := defScope s_opposite) (by decide +kernel)) (fun _ _ _ _ _ => (pg_tupK (K := K) (n := 2) rfl (pgs_cons (pg_name (i := 1) sc_opposite.nd rfl (Or.inl rfl)) (pgs_cons (pg_name (i := 2) sc_opposite.nd rfl (Or.inl rfl)) pgs_nil)) rfl)) (fun _ _ _ _ _ => pts_nil) (fun _ _ _ _ _ => (pe_tup (pa_cons (pv 1) (pa_cons (pe_un un_neg (pv 2)) pa_nil))))) pa_nil)))), ?_⟩
  try dsimp only [cxOf, Cx.nox]
  refine body_of (N := N_opposite) (fun Γ ds hK hl hp => ?_) h
  subst hK
  obtain ⟨r, rfl, hr⟩ := hp
  rw [sl_opposite]
  have hlen := hr.len
  walk_at "pr"
  refine NL.ed (nl_lcMap (α := Str × Int) (js := [1] ++ ([2] ++ [])) (by decide) (wd_tup ?_))
  walk_at "pr"
  refine ⟨by rw [List.length_map]; omega, r, prD, fun p => prD (ngp p), rfl, fun p hp => ?_, ?_⟩
  · refine gd_tup ⟨_, rfl, rfl, gds_cons (gd_name (gds_cons (gd_name (gds_nil ?_))))⟩
    walk_at "pr"
    refine ed_tup ?_
    walk_at "pr"
    exact ⟨by show 2 ≤ 100000; decide, rfl⟩
  · walk_at "pr"
    refine cd_tupL ?_
    intro x e
    simp only [List.cons.injEq, and_true] at e
    rw [← rowD_inj e]
    show Dt.tup (r.map fun p => prD (ngp p)) = Dt.tup ((r.map ngp).map prD)
    rw [List.map_map]
    rfl
theorem ed_opp {Γ : Cn} {δ : List Sl} {Pq : Dt → Prop} {te : TE} (h : ED Γ te δ fun d => ∃ r, d = rowD r ∧ RowOk r ∧ Pq (rowD (opp r))) : ED Γ (tCall (spOpp Γ.W.K) [] L2.E0 (tCons te tNil)) δ Pq :=
  ed_call (ad_cons (h.imp fun d ⟨r, e, hr, p⟩ => ad_nil ⟨rfl, ⟨r, by rw [e], hr⟩, fun x hx => by rw [hx r (by rw [e])]; exact p⟩))
end
end Pd.K31

set_option Elab.async false
set_option linter.all false
set_option maxRecDepth 100000
set_option maxHeartbeats 4000000
namespace Pd.K31
open PySem PySem.Spec PyProof.Rows L2 Pd
local macro_rules | `(tactic| walk_at "p0") => `(tactic| first
  | with_reducible refine sd_seq ?_ | with_reducible refine sd_ret ?_ | with_reducible refine sd_if ?_ | with_reducible refine sd_asgNil ?_ | with_reducible refine sd_asg ?_ | with_reducible refine sd_next ?_ | with_reducible refine sd_parD ?_ | with_reducible refine sd_par3 ?_
  | ((with_reducible refine' ed_var ?hv ?_); (case hv => rfl)) | with_reducible refine ed_int ?_ | with_reducible refine ed_str ?_ | with_reducible refine ed_bl ?_ | with_reducible refine ed_non ?_ | with_reducible refine ed_raw ?_
  | with_reducible refine ed_op ?_ | with_reducible refine ed_cb ?_ | with_reducible refine ra_cons ?_ | with_reducible refine ra_nil ?_ | with_reducible refine ad_cons ?_ | with_reducible refine ad_nil ?_ | with_reducible refine ed_chain ?_ | with_reducible refine ed_neg ?_ | with_reducible refine ed_fld ?_ | with_reducible refine ed_isN ?_
  | with_reducible refine td_test ?_ | with_reducible refine td_B ?_ | with_reducible refine td_not ?_ | with_reducible refine td_and ?_ | with_reducible refine td_or ?_ | with_reducible refine ed_andV ?_ | with_reducible refine ed_orV ?_ | with_reducible refine ed_notV ?_ | with_reducible refine ed_if ?_
  | with_reducible refine ED.rd ?_ | with_reducible refine gd_name ?_ | with_reducible refine op_none ?_ | with_reducible refine op_some ?_
  | with_reducible refine od_addI ?_ | with_reducible refine od_subI ?_ | with_reducible refine od_lt ?_ | with_reducible refine od_le ?_ | with_reducible refine od_gt ?_ | with_reducible refine od_ge ?_ | with_reducible refine od_eqI ?_ | with_reducible refine od_neI ?_ | with_reducible refine od_eqS ?_ | with_reducible refine od_neS ?_
  | with_reducible refine cd_int ?_ | with_reducible refine cd_abs ?_ | with_reducible refine cd_max2 ?_ | with_reducible refine cd_min2 ?_ | with_reducible refine cd_lenScr ?_ | ((with_reducible refine cd_lenS ?hz ?_); (case hz => first | decide | omega)) | with_reducible refine cd_lenL ?_ | with_reducible refine cd_lenT ?_
  | with_reducible refine ⟨_, rfl, ?_⟩
  | dsimp only [List.set_cons_zero, List.set_cons_succ]
  | refine ⟨fun _ => ?_, fun z => Bool.noConfusion z⟩ | refine ⟨fun z => Bool.noConfusion z, fun _ => ?_⟩)
local macro_rules | `(tactic| walk_at "p1") => `(tactic| first
  | ((with_reducible refine' ed_stk ?hd ?hM ?hJ ?hz ?hj ?_); (case hd => rfl); (case hM => assumption); (case hJ => assumption); (case hz => first | exact (rfl : (0 : Int) = ((0 : Nat) : Int)) | exact (rfl : (1 : Int) = ((1 : Nat) : Int)) | exact (rfl : (2 : Int) = ((2 : Nat) : Int))); (case hj => decide); intro x hx; (try have hx0 := hx.1 rfl); (try have hx1 := hx.2 rfl))
  | walk_at "p0"
  | ((with_reducible refine od_mod ?hc ?_); (case hc => first | decide | omega))
  | ((with_reducible refine od_mulI ?hc ?_); (case hc => first | exact .inl ⟨by decide, by decide⟩ | exact .inr ⟨by decide, by decide⟩ | exact .inl ⟨by omega, by omega⟩ | exact .inr ⟨by omega, by omega⟩))
  | ((with_reducible refine od_div ?hc ?_); (case hc => first | exact wide_div (b := 10) (by decide) (by decide) (by decide) (by decide) | exact wide_div (b := 10) (by omega) (by omega) (by decide) (by decide)))
  | ((with_reducible refine od_pow ?hc ?_); (case hc => exact ⟨by decide, by decide, by decide⟩)))
local macro_rules | `(tactic| walk_at "pr") => `(tactic| repeat walk_at "p1")

/-- page, marks, links, templates -/
abbrev Sc := Int × Row × Row × Row
def fW (a : Sc) : List (Str × Dt) := [("page", .int a.1), ("marks", rowD a.2.1), ("links", rowD a.2.2.1), ("templates", rowD a.2.2.2)]
structure ScOk (a : Sc) : Prop where
  p : Sw a.1
  m : RowOk a.2.1
  l : RowOk a.2.2.1
  t : RowOk a.2.2.2
def asc4 (a : Sc) : Sc := (a.1, asc a.2.1, asc a.2.2.1, asc a.2.2.2)
def opp4 (a : Sc) : Sc := (-a.1, opp a.2.1, opp a.2.2.1, opp a.2.2.2)
theorem ScOk.asc {a : Sc} (h : ScOk a) : ScOk (asc4 a) := ⟨h.p, h.m.asc, h.l.asc, h.t.asc⟩
theorem ScOk.opp {a : Sc} (h : ScOk a) : ScOk (opp4 a) := ⟨⟨by have := h.p.2; show -(2 ^ 150) < -a.1; omega, by have := h.p.1; show -a.1 < 2 ^ 150; omega⟩, h.m.opp, h.l.opp, h.t.opp⟩
section
variable {P : Program} {w : World} {K : PySem.W.Frag} {mg : Str → Option Value} {base : Heap} {C : Addr}
abbrev s_Weights___init__ : Stmt := inClass (top 20) 0
abbrev N_Weights___init__ : List Str := ["self", "page", "marks", "links", "templates", "wrong"]
theorem sc_Weights___init__ : FnScope N_Weights___init__ ["self", "page", "marks", "links", "templates"] (defScope s_Weights___init__) := ⟨rfl, rfl, rfl, by decide +kernel, rfl, by decide +kernel, by decide +kernel⟩
theorem sl_Weights___init__ (S : Sf) (d1 d2 d3 d4 : Dt) : slotsI S N_Weights___init__.length [d1, d2, d3, d4] = [.slf S [], .dat d1, .dat d2, .dat d3, .dat d4, .un] := rfl
def args4 (a : Sc) : List Dt := [.int a.1, rowD a.2.1, rowD a.2.2.1, rowD a.2.2.2]
def preW : Wo → List Dt → Prop := fun _ ds => ∃ a, ds = args4 a ∧ ScOk a
def resW : List Dt → List (Str × Dt) → Prop := fun ds fs => ∀ a, ds = args4 a → fs = fW (asc4 a)
abbrev spInitW (K : PySem.W.Frag) (C : Addr) : Sp := spI K C 4 preW resW
theorem args4_inj {a b : Sc} (h : args4 a = args4 b) : a = b := by
  obtain ⟨a1, a2, a3, a4⟩ := a
  obtain ⟨b1, b2, b3, b4⟩ := b
  simp only [args4, List.cons.injEq, Dt.int.injEq, and_true] at h
  obtain ⟨h1, h2, h3, h4⟩ := h
  rw [h1, rowD_inj h2, rowD_inj h3, rowD_inj h4]
theorem ok_init {f : Addr} {fd : FuncData} {kws : List (Str × V)} (F : FunD K "__init__" "Weights.__init__" (defArgs s_Weights___init__) (defBody s_Weights___init__) (defScope s_Weights___init__) [] kws f fd) (T : Txt K mg C) (c_is_integer : Cl P w K mg base 1 "is_integer" (spInteger K)) (c_wrong_weight : Cl P w K mg base 2 "wrong_weight" (spWrong K)) (c_without_zeros : Cl P w K mg base 1 "without_zeros" (spZeros K)) : FnOk P w K mg base L2.CX0 3 f fd ["self", "page", "marks", "links", "templates"] (spInitW K C) := by
  refine F.ok sc_Weights___init__ (fun vs H Q E h => h.1) (fun cdv A outer s H vs Q E hr h => ?_)
  have hu65 := hr.units65
  refine ⟨_, (pss_cons (ps_if (pt_not (pt_val (pe_cl c_is_integer hr (by decide) (by rfl) (pa_cons (pv 1) pa_nil)))) (pss_one ps_never) pss_nil)
      (pss_cons (ps_set (i := 5) sc_Weights___init__.nd rfl (Or.inl rfl) (pe_cl c_wrong_weight hr (by decide) (by rfl) (pa_cons (pv 2) pa_nil)))
      (pss_cons (ps_if (PW.pt (pw_or (pt_cmp (pc_isN (pv 5)) rfl) (pw_or1 (pt_cmpR op_ge (pv 5) pe_int (nomark _))))) (pss_one ps_never) pss_nil)
      (pss_cons (ps_set (i := 5) sc_Weights___init__.nd rfl (Or.inl rfl) (pe_cl c_wrong_weight hr (by decide) (by rfl) (pa_cons (pv 3) pa_nil)))
      (pss_cons (ps_if (PW.pt (pw_or (pt_cmp (pc_isN (pv 5)) rfl) (pw_or1 (pt_cmpR op_ge (pv 5) pe_int (nomark _))))) (pss_one ps_never) pss_nil)
      (pss_cons (ps_set (i := 5) sc_Weights___init__.nd rfl (Or.inl rfl) (pe_cl c_wrong_weight hr (by decide) (by rfl) (pa_cons (pv 4) pa_nil)))
      (pss_cons (ps_if (PW.pt (pw_or (pt_cmp (pc_isN (pv 5)) rfl) (pw_or1 (pt_cmpR op_ge (pv 5) pe_int (nomark _))))) (pss_one ps_never) pss_nil)
      (pss_cons (ps_fldK (K := K) rfl (pv 0) (pv 1) rfl)
      (pss_cons (ps_fldK (K := K) rfl (pv 0) (pe_cl c_without_zeros hr (by decide) (by rfl) (pa_cons (pv 2) pa_nil)) rfl)
      (pss_cons (ps_fldK (K := K) rfl (pv 0) (pe_cl c_without_zeros hr (by decide) (by rfl) (pa_cons (pv 3) pa_nil)) rfl)
      (pss_one (ps_fldK (K := K) rfl (pv 0) (pe_cl c_without_zeros hr (by decide) (by rfl) (pa_cons (pv 4) pa_nil)) rfl)))))))))))), ?_⟩
  try dsimp only [cxOf, Cx.nox]
  refine body_ofI (N := N_Weights___init__) (fun Γ ds S hS hK hl hp => ?_) h
  subst hK
  obtain ⟨⟨p, m, l, t⟩, rfl, hp, hm, hl', ht⟩ := hp
  obtain ⟨sa, sdx, sc⟩ := S
  obtain rfl : sc = C := hS
  show SD Γ _ [.slf ⟨sa, sdx, sc⟩ [], .dat (.int p), .dat (rowD m), .dat (rowD l), .dat (rowD t), .un] _
  have hcl := T.e_Weights.kd.cl
  walk_at "pr"
  refine ed_integer ?_
  walk_at "pr"
  refine ed_wrong ?_
  walk_at "pr"
  refine ⟨hm, ?_⟩
  walk_at "pr"
  refine ⟨(fun v z => by cases z), ?_⟩
  walk_at "pr"
  refine ed_wrong ?_
  walk_at "pr"
  refine ⟨hl', ?_⟩
  walk_at "pr"
  refine ⟨(fun v z => by cases z), ?_⟩
  walk_at "pr"
  refine ed_wrong ?_
  walk_at "pr"
  refine ⟨ht, ?_⟩
  walk_at "pr"
  refine ⟨(fun v z => by cases z), ?_⟩
  walk_at "pr"
  refine sd_fld (i := 0) rfl (by decide) hcl T.n_page ?_
  walk_at "pr"
  refine sd_fld (i := 0) rfl (by show 1 < 1000; decide) hcl T.n_marks (ed_zeros ?_)
  walk_at "pr"
  refine ⟨hm, ?_⟩
  walk_at "pr"
  refine sd_fld (i := 0) rfl (by show 2 < 1000; decide) hcl T.n_links (ed_zeros ?_)
  walk_at "pr"
  refine ⟨hl', ?_⟩
  walk_at "pr"
  refine sd_fld (i := 0) rfl (by show 3 < 1000; decide) hcl T.n_templates (ed_zeros ?_)
  walk_at "pr"
  refine ⟨ht, _, rfl, ?_⟩
  intro a e
  rw [← args4_inj e]
  rfl
/-! ### -w -/
abbrev s_Weights___neg__ : Stmt := inClass (top 20) 3
abbrev N_Weights___neg__ : List Str := ["self", "sides"]
theorem sc_Weights___neg__ : FnScope N_Weights___neg__ ["self"] (defScope s_Weights___neg__) := ⟨rfl, rfl, rfl, by decide +kernel, rfl, by decide +kernel, by decide +kernel⟩
theorem sl_Weights___neg__ (d0 : Dt) : slots N_Weights___neg__.length [d0] = [.dat d0, .un] := rfl
def preN : Wo → List Dt → Prop := fun _ ds => ∃ C a, ds = [.obj C (fW a)] ∧ ScOk a
def resN : List Dt → Dt → Prop := fun ds r => ∀ C a, ds = [.obj C (fW a)] → r = .obj C (fW (asc4 (opp4 a)))
abbrev spNeg (K : PySem.W.Frag) (C : Addr) : Sp := spW K 1 (fun W ds => ∃ a, ds = [.obj C (fW a)] ∧ ScOk a) resN
theorem fW_inj {a b : Sc} (h : fW a = fW b) : a = b := by
  obtain ⟨a1, a2, a3, a4⟩ := a
  obtain ⟨b1, b2, b3, b4⟩ := b
  simp only [fW, List.cons.injEq, Prod.mk.injEq, Dt.int.injEq, and_true, true_and] at h
  obtain ⟨h1, h2, h3, h4⟩ := h
  rw [h1, rowD_inj h2, rowD_inj h3, rowD_inj h4]
abbrev gV4 : List V → List V → List V := fun vs zs => vs ++ zs
theorem ed_mk4 {Γ : Cn} {δ : List Sl} {Pq : Dt → Prop} {tk : TA} {C : Addr} (h : AD Γ tk δ fun ds => ∃ a, ds = args4 a ∧ ScOk a ∧ Pq (.obj C (fW (asc4 a)))) : ED Γ (tMakeK C 0 4 (spInitW Γ.W.K C) gV4 L2.E0 tNil tk) δ Pq := by
  refine ed_makeK (gD := fun ds es => ds ++ es) (fun x vs zs => ⟨vs ++ zs, rfl, fun G ds es h1 h2 => h1.append h2⟩) (ad_nil ?_)
  intro G H σ Q at_ k
  refine h G H σ Q at_ fun vs ds G' H' f g r ⟨a, e, ha, p⟩ => k vs ds G' H' f g r ?_
  subst e
  exact ⟨rfl, rfl, rfl, ⟨a, rfl, ha⟩, fun fds hf => by rw [hf a rfl]; exact p⟩
theorem ok_neg {f : Addr} {fd : FuncData} (F : Fun K "__neg__" "Weights.__neg__" s_Weights___neg__ f fd) (T : Txt K mg C) (c_opposite : Cl P w K mg base 1 "opposite" (spOpp K)) (i_Weights_0_page_marks_links_templates : ClIK P w K mg base 3 C "Weights" 0 ["page", "marks", "links", "templates"] gV4 (spInitW K C)) : FnOk P w K mg base L2.CX0 5 f fd ["self"] (spNeg K C) := by
  refine F.ok sc_Weights___neg__ (fun vs H Q E h => h.1) (fun cdv A outer s H vs Q E hr h => ?_)
  have hu65 := hr.units65
  refine ⟨_, (pss_cons (ps_set (i := 1) sc_Weights___neg__.nd rfl (Or.inl rfl) (pe_lst (pa_cons (pe_cl c_opposite hr (by decide) (by rfl) (pa_cons (pe_fldK (K := K) rfl (pv 0) rfl) pa_nil)) (pa_cons (pe_cl c_opposite hr (by decide) (by rfl) (pa_cons (pe_fldK (K := K) rfl (pv 0) rfl) pa_nil)) (pa_cons (pe_cl c_opposite hr (by decide) (by rfl) (pa_cons (pe_fldK (K := K) rfl (pv 0) rfl) pa_nil)) pa_nil)))))
      (pss_one (ps_ret (pe_mkK0 i_Weights_0_page_marks_links_templates hr (by decide) (by rfl) (pk_cons (pe_un un_neg (pe_fldK (K := K) rfl (pv 0) rfl)) (pk_cons (pe_ix (IxR.wk (r := rIx) (K := K) ix_seq rfl) (pv 1) pe_int (fun _ _ => rfl)) (pk_cons (pe_ix (IxR.wk (r := rIx) (K := K) ix_seq rfl) (pv 1) pe_int (fun _ _ => rfl)) (pk_cons (pe_ix (IxR.wk (r := rIx) (K := K) ix_seq rfl) (pv 1) pe_int (fun _ _ => rfl)) pk_nil)))))))), ?_⟩
  try dsimp only [cxOf, Cx.nox]
  refine body_of (N := N_Weights___neg__) (fun Γ ds hK hl hp => ?_) h
  subst hK
  obtain ⟨a, rfl, ha⟩ := hp
  rw [sl_Weights___neg__]
  have hcl := T.e_Weights.kd.cl
  walk_at "pr"
  refine NL.ed (nl_lst ?_)
  walk_at "pr"
  refine ed_opp ?_
  walk_at "pr"
  refine ⟨_, _, _, rfl, hcl, T.n_marks, rfl, _, rfl, ha.m, ?_⟩
  walk_at "pr"
  refine ed_opp ?_
  walk_at "pr"
  refine ⟨_, _, _, rfl, hcl, T.n_links, rfl, _, rfl, ha.l, ?_⟩
  walk_at "pr"
  refine ed_opp ?_
  walk_at "pr"
  refine ⟨_, _, _, rfl, hcl, T.n_templates, rfl, _, rfl, ha.t, ?_⟩
  walk_at "pr"
  refine ⟨by show 3 ≤ 100000; decide, ?_⟩
  walk_at "pr"
  refine ed_mk4 ?_
  walk_at "pr"
  refine ⟨_, _, _, rfl, hcl, T.n_page, rfl, ?_⟩
  walk_at "pr"
  refine od_ixLi (j := 0) rfl rfl ?_
  walk_at "pr"
  refine od_ixLi (j := 1) rfl rfl ?_
  walk_at "pr"
  refine od_ixLi (j := 2) rfl rfl ?_
  walk_at "pr"
  refine ⟨opp4 a, rfl, ha.opp, ?_⟩
  intro C' a' e
  simp only [List.cons.injEq, Dt.obj.injEq, and_true] at e
  obtain ⟨rfl, e⟩ := e
  rw [fW_inj e]
/-! ### w == other -/
abbrev s_Weights___eq__ : Stmt := inClass (top 20) 4
abbrev N_Weights___eq__ : List Str := ["self", "other"]
theorem sc_Weights___eq__ : FnScope N_Weights___eq__ ["self", "other"] (defScope s_Weights___eq__) := ⟨rfl, rfl, rfl, by decide +kernel, rfl, by decide +kernel, by decide +kernel⟩
theorem sl_Weights___eq__ (d0 d1 : Dt) : slots N_Weights___eq__.length [d0, d1] = [.dat d0, .dat d1] := rfl
def preE (C : Addr) : Wo → List Dt → Prop := fun _ ds => ∃ a y, ds = [.obj C (fW a), y] ∧ ScOk a ∧ ((∃ b, y = .obj C (fW b) ∧ ScOk b) ∨ ∃ t, tyD y = some t)
def resE (C : Addr) : List Dt → Dt → Prop := fun ds r => (∀ a b, ds = [.obj C (fW a), .obj C (fW b)] → r = .bl (decide (a = b))) ∧ ∀ a y t, ds = [.obj C (fW a), y] → tyD y = some t → r = .bl false
abbrev spEqW (K : PySem.W.Frag) (C : Addr) : Sp := spW K 2 (preE C) (resE C)
theorem ne_of {a b : Sc} (h : a ≠ b) : decide (a = b) = false := decide_eq_false h
theorem od_neR {W : Wo} {Pq : Dt → Prop} {r s : Row} (hr : RowOk r) (hs : RowOk s) (p : Pq (.bl (!decide (r = s)))) : OD W (rNeA W.K) (rowD r) (rowD s) Pq :=
  od_ne (toPy_row r) (toPy_row s) (shaped_row hr) (shaped_row hs) (by rw [eqv_row]; exact p)
theorem od_eqR {W : Wo} {Pq : Dt → Prop} {r s : Row} (hr : RowOk r) (hs : RowOk s) (p : Pq (.bl (decide (r = s)))) : OD W (rEqA W.K) (rowD r) (rowD s) Pq :=
  od_eq (toPy_row r) (toPy_row s) (shaped_row hr) (shaped_row hs) (by rw [eqv_row]; exact p)
theorem ok_eq {f : Addr} {fd : FuncData} (F : Fun K "__eq__" "Weights.__eq__" s_Weights___eq__ f fd) (T : Txt K mg C) : FnOk P w K mg base L2.CX0 1 f fd ["self", "other"] (spEqW K C) := by
  refine F.ok sc_Weights___eq__ (fun vs H Q E h => h.1) (fun cdv A outer s H vs Q E hr h => ?_)
  have hu65 := hr.units65
  refine ⟨_, (pss_cons (ps_if (PW.pt (pw_or (pt_not (pt_val (pe_callB (CallR.wk (r := rIsi) (K := K) call_isi rfl) (by rfl) T.b_isinstance (by decide +kernel) (pa_cons (pv 1) (pa_cons (pe_gc (by rfl) T.k_Weights) pa_nil))))) (pw_or (pt_cmpR (OpR.wk (r := rNeA) (K := K) (opNe hr.units) rfl) (pe_fldK (K := K) rfl (pv 0) rfl) (pe_fldK (K := K) rfl (pv 1) rfl) (nomark _)) (pw_or1 (pt_cmpR (OpR.wk (r := rNeA) (K := K) (opNe hr.units) rfl) (pe_fldK (K := K) rfl (pv 0) rfl) (pe_fldK (K := K) rfl (pv 1) rfl) (nomark _)))))) (pss_one (ps_ret pe_bl)) pss_nil)
      (pss_one (ps_ret (pe_and (pe_cmpR (OpR.wk (r := rEqA) (K := K) (opEq hr.units) rfl) (pe_fldK (K := K) rfl (pv 0) rfl) (pe_fldK (K := K) rfl (pv 1) rfl) (nomark _)) (pe_one (pe_cmpR (OpR.wk (r := rEqA) (K := K) (opEq hr.units) rfl) (pe_fldK (K := K) rfl (pv 0) rfl) (pe_fldK (K := K) rfl (pv 1) rfl) (nomark _))))))), ?_⟩
  try dsimp only [cxOf, Cx.nox]
  refine body_of (N := N_Weights___eq__) (fun Γ ds hK hl hp => ?_) h
  subst hK
  obtain ⟨a, y, rfl, ha, hy⟩ := hp
  rw [sl_Weights___eq__]
  have hcl := T.e_Weights.kd.cl
  rcases hy with ⟨b, rfl, hb⟩ | ⟨t, ht⟩
  · have fin : ∀ v : Bool, v = decide (a = b) → resE C [.obj C (fW a), .obj C (fW b)] (.bl v) := by
      rintro v rfl
      refine ⟨fun a' b' e => ?_, fun a' y t e ht => ?_⟩
      · simp only [List.cons.injEq, Dt.obj.injEq, and_true, true_and] at e
        rw [fW_inj e.1, fW_inj e.2]
      · simp only [List.cons.injEq, Dt.obj.injEq, and_true, true_and] at e
        rw [← e.2] at ht
        cases ht
    obtain ⟨a1, a2, a3, a4⟩ := a
    obtain ⟨b1, b2, b3, b4⟩ := b
    walk_at "pr"
    refine cd_isiO T.e_Weights.kd ?_
    walk_at "pr"
    refine ⟨_, _, _, rfl, hcl, T.n_page, rfl, ?_⟩
    walk_at "pr"
    refine ⟨_, _, _, rfl, hcl, T.n_page, rfl, ?_⟩
    refine od_neI ?_
    walk_at "pr"
    refine ⟨fun h1 => ?_, fun h1 => ?_⟩
    · walk_at "pr"
      refine fin _ (ne_of ?_).symm
      intro z
      simp at z
      simp [z.1] at h1
    · have k1 : a1 = b1 := by simpa using h1
      walk_at "pr"
      refine ⟨_, _, _, rfl, hcl, T.n_marks, rfl, ?_⟩
      walk_at "pr"
      refine ⟨_, _, _, rfl, hcl, T.n_marks, rfl, ?_⟩
      refine od_neR ha.m hb.m ?_
      walk_at "pr"
      refine ⟨fun h2 => ?_, fun h2 => ?_⟩
      · walk_at "pr"
        refine fin _ (ne_of ?_).symm
        intro z
        simp at z
        simp [z.2.1] at h2
      · have k2 : a2 = b2 := by simpa using h2
        walk_at "pr"
        refine ⟨_, _, _, rfl, hcl, T.n_links, rfl, ?_⟩
        walk_at "pr"
        refine ⟨_, _, _, rfl, hcl, T.n_links, rfl, ?_⟩
        refine od_eqR ha.l hb.l ?_
        walk_at "pr"
        refine ⟨fun h3 => ?_, fun h3 => ?_⟩
        · have k3 : a3 = b3 := by simpa using h3
          walk_at "pr"
          refine ⟨_, _, _, rfl, hcl, T.n_templates, rfl, ?_⟩
          walk_at "pr"
          refine ⟨_, _, _, rfl, hcl, T.n_templates, rfl, ?_⟩
          refine od_eqR ha.t hb.t ?_
          refine fin _ ?_
          by_cases q : a4 = b4 <;> simp [q, k1, k2, k3]
        · refine fin _ (ne_of ?_).symm
          intro z
          simp at z
          simp [z.2.2.1] at h3
  · walk_at "pr"
    refine cd_isiN T.e_Weights.kd ht ?_
    walk_at "pr"
    refine ⟨fun a' b' e => ?_, fun a' y' t' e ht' => rfl⟩
    simp only [List.cons.injEq, Dt.obj.injEq, and_true, true_and] at e
    rw [e.2] at ht
    cases ht
end
end Pd.K31

set_option Elab.async false
set_option linter.all false
set_option maxRecDepth 100000
set_option maxHeartbeats 4000000
namespace Pd.K31
open PySem PySem.Spec PyProof.Rows L2 Pd
local macro_rules | `(tactic| walk_at "p0") => `(tactic| first
  | with_reducible refine sd_seq ?_ | with_reducible refine sd_ret ?_ | with_reducible refine sd_if ?_ | with_reducible refine sd_asgNil ?_ | with_reducible refine sd_asg ?_ | with_reducible refine sd_next ?_ | with_reducible refine sd_parD ?_ | with_reducible refine sd_par3 ?_
  | ((with_reducible refine' ed_var ?hv ?_); (case hv => rfl)) | with_reducible refine ed_int ?_ | with_reducible refine ed_str ?_ | with_reducible refine ed_bl ?_ | with_reducible refine ed_non ?_ | with_reducible refine ed_raw ?_
  | with_reducible refine ed_op ?_ | with_reducible refine ed_cb ?_ | with_reducible refine ra_cons ?_ | with_reducible refine ra_nil ?_ | with_reducible refine ad_cons ?_ | with_reducible refine ad_nil ?_ | with_reducible refine ed_chain ?_ | with_reducible refine ed_neg ?_ | with_reducible refine ed_fld ?_ | with_reducible refine ed_isN ?_
  | with_reducible refine td_test ?_ | with_reducible refine td_B ?_ | with_reducible refine td_not ?_ | with_reducible refine td_and ?_ | with_reducible refine td_or ?_ | with_reducible refine ed_andV ?_ | with_reducible refine ed_orV ?_ | with_reducible refine ed_notV ?_ | with_reducible refine ed_if ?_
  | with_reducible refine ED.rd ?_ | with_reducible refine gd_name ?_ | with_reducible refine op_none ?_ | with_reducible refine op_some ?_
  | with_reducible refine od_addI ?_ | with_reducible refine od_subI ?_ | with_reducible refine od_lt ?_ | with_reducible refine od_le ?_ | with_reducible refine od_gt ?_ | with_reducible refine od_ge ?_ | with_reducible refine od_eqI ?_ | with_reducible refine od_neI ?_ | with_reducible refine od_eqS ?_ | with_reducible refine od_neS ?_
  | with_reducible refine cd_int ?_ | with_reducible refine cd_abs ?_ | with_reducible refine cd_max2 ?_ | with_reducible refine cd_min2 ?_ | with_reducible refine cd_lenScr ?_ | ((with_reducible refine cd_lenS ?hz ?_); (case hz => first | decide | omega)) | with_reducible refine cd_lenL ?_ | with_reducible refine cd_lenT ?_
  | with_reducible refine ⟨_, rfl, ?_⟩
  | dsimp only [List.set_cons_zero, List.set_cons_succ]
  | refine ⟨fun _ => ?_, fun z => Bool.noConfusion z⟩ | refine ⟨fun z => Bool.noConfusion z, fun _ => ?_⟩)
local macro_rules | `(tactic| walk_at "p1") => `(tactic| first
  | ((with_reducible refine' ed_stk ?hd ?hM ?hJ ?hz ?hj ?_); (case hd => rfl); (case hM => assumption); (case hJ => assumption); (case hz => first | exact (rfl : (0 : Int) = ((0 : Nat) : Int)) | exact (rfl : (1 : Int) = ((1 : Nat) : Int)) | exact (rfl : (2 : Int) = ((2 : Nat) : Int))); (case hj => decide); intro x hx; (try have hx0 := hx.1 rfl); (try have hx1 := hx.2 rfl))
  | walk_at "p0"
  | ((with_reducible refine od_mod ?hc ?_); (case hc => first | decide | omega))
  | ((with_reducible refine od_mulI ?hc ?_); (case hc => first | exact .inl ⟨by decide, by decide⟩ | exact .inr ⟨by decide, by decide⟩ | exact .inl ⟨by omega, by omega⟩ | exact .inr ⟨by omega, by omega⟩))
  | ((with_reducible refine od_div ?hc ?_); (case hc => first | exact wide_div (b := 10) (by decide) (by decide) (by decide) (by decide) | exact wide_div (b := 10) (by omega) (by omega) (by decide) (by decide)))
  | ((with_reducible refine od_pow ?hc ?_); (case hc => exact ⟨by decide, by decide, by decide⟩)))
local macro_rules | `(tactic| walk_at "pr") => `(tactic| repeat walk_at "p1")

section
variable {P : Program} {w : World} {K : PySem.W.Frag} {mg : Str → Option Value} {base : Heap} {C : Addr}
def scD (a : Sc) : Dt := .tup (args4 a)
theorem scD_inj {a b : Sc} (h : scD a = scD b) : a = b := args4_inj (Dt.tup.inj h)
def preSc : Wo → List Dt → Prop := fun _ ds => ∃ a, ds = [scD a] ∧ ScOk a
/-! ### _law_ascending -/
abbrev s__law_ascending : Stmt := top 29
abbrev N__law_ascending : List Str := ["_law_scales", "_law_found", "_law_row_here", "_law_pair"]
theorem sc__law_ascending : FnScope N__law_ascending ["_law_scales"] (defScope s__law_ascending) := ⟨rfl, rfl, rfl, by decide +kernel, rfl, by decide +kernel, by decide +kernel⟩
theorem sl__law_ascending (d0 : Dt) : slots N__law_ascending.length [d0] = [.dat d0, .un, .un, .un] := rfl
def resAsc4 : List Dt → Dt → Prop := fun ds r => ∀ a, ds = [scD a] → r = scD (asc4 a)
abbrev spAsc (K : PySem.W.Frag) : Sp := spW K 1 preSc resAsc4
theorem ok_asc {f : Addr} {fd : FuncData} (F : Fun K "_law_ascending" "_law_ascending" s__law_ascending f fd) (T : Txt K mg C) : FnOk P w K mg base L2.CX0 1 f fd ["_law_scales"] (spAsc K) := by
  refine F.ok sc__law_ascending (fun vs H Q E h => h.1) (fun cdv A outer s H vs Q E hr h => ?_)
  have hu65 := hr.units65
  refine ⟨_, (pss_cons (ps_setLc (i := 1) (own := [("_law_row_here", 2)]) (by rfl) sc__law_ascending.nd rfl rfl (sw_true rfl rfl rfl (by decide +kernel)) (pi_tupK (K := K) (pe_slice (slAnyK (K := K) rfl) (pv 0) (po_some pe_int) po_none) rfl) (blkOk_by (own := [("_law_row_here", 2)]) (N := N__law_ascending) (sc := defScope s__law_ascending) (by decide +kernel)) (fun _ _ _ _ _ => (pg_name (i := 2) sc__law_ascending.nd rfl (Or.inl rfl))) (fun _ _ _ _ _ => pts_nil) (fun _ _ _ _ _ => (pe_callTy (CallR.wk (r := rTupOf) (K := K) callTupOf rfl) (by rfl) T.b_tuple (by decide +kernel) (pa_cons (pe_callB (CallR.wk (r := rSortD) (K := K) (callSortD hr.units) rfl) (by rfl) T.b_sorted (by decide +kernel) (pa_cons (pe_lc (own := [("_law_pair", 3)]) (by rfl) sc__law_ascending.nd (pi_tupK (K := K) (pv 2) rfl) (blkOk_by (own := [("_law_pair", 3)]) (N := N__law_ascending) (by kernel_rfl)) (fun _ _ _ _ _ => (pg_name (i := 3) sc__law_ascending.nd rfl (Or.inl rfl))) (fun _ _ _ _ _ => (pts_one (pt_cmpR (OpR.wk (r := rNeA) (K := K) (opNe hr.units) rfl) (pe_ix (IxR.wk (r := rIx) (K := K) ix_seq rfl) (pv 3) pe_int (fun _ _ => rfl)) pe_int (nomark _)))) (fun _ _ _ _ _ => (pv 3))) pa_nil)) pa_nil))))
      (pss_one (ps_ret (pe_tup (pa_cons (pe_ix (IxR.wk (r := rIx) (K := K) ix_seq rfl) (pv 0) pe_int (fun _ _ => rfl)) (pa_cons (pe_ix (IxR.wk (r := rIx) (K := K) ix_seq rfl) (pv 1) pe_int (fun _ _ => rfl)) (pa_cons (pe_ix (IxR.wk (r := rIx) (K := K) ix_seq rfl) (pv 1) pe_int (fun _ _ => rfl)) (pa_cons (pe_ix (IxR.wk (r := rIx) (K := K) ix_seq rfl) (pv 1) pe_int (fun _ _ => rfl)) pa_nil)))))))), ?_⟩
  try dsimp only [cxOf, Cx.nox]
  refine body_of (N := N__law_ascending) (fun Γ ds hK hl hp => ?_) h
  subst hK
  obtain ⟨⟨p, m, l, t⟩, rfl, hp, hm, hl', ht⟩ := hp
  rw [sl__law_ascending]
  walk_at "pr"
  refine NL.ed (nl_lcMap (α := Row) (js := [2]) (by decide) (wd_tup (ed_sl ?_)))
  walk_at "pr"
  refine .inr (.inr (.inl ⟨_, rfl, _, rfl, by show 3 ≤ 100000; decide, [m, l, t], rowD, fun r => rowD (asc r), rfl, fun r hr => ?_, ?_⟩))
  · have hr : RowOk r := by
      simp only [List.mem_cons, List.not_mem_nil, or_false] at hr
      rcases hr with rfl | rfl | rfl
      · exact hm
      · exact hl'
      · exact ht
    have hlen := hr.len
    refine gd_name ?_
    walk_at "pr"
    refine NL.ed (nl_lc (js := [3]) (by decide) (wd_tup ?_))
    refine ed_var rfl ?_
    refine ⟨_, rfl, by rw [List.length_map]; omega, fun i acc => acc = ((r.take i).filter nz).map prD, rfl, ?_, ?_⟩
    · rintro i x acc hx rfl
      rw [List.getElem?_map] at hx
      cases hp : r[i]? with
      | none => rw [hp] at hx; cases hx
      | some p =>
        rw [hp] at hx
        cases hx
        refine gd_name ?_
        walk_at "pr"
        refine od_ixTi (j := 1) rfl rfl ?_
        walk_at "pr"
        have et : r.take (i + 1) = r.take i ++ [p] := by rw [List.take_add_one, hp]; rfl
        refine ⟨fun hb => ?_, fun hb => ?_⟩
        · refine ed_var rfl ?_
          rw [et, List.filter_append, List.map_append]
          have : nz p = true := hb
          rw [List.filter_cons_of_pos this]
          rfl
        · rw [et, List.filter_append]
          have : ¬ nz p = true := by rw [show nz p = false from hb]; decide
          rw [List.filter_cons_of_neg this]
          simp
    · rintro acc ha
      have ha : acc = (r.filter nz).map prD := by rw [ha, List.length_map, List.take_length]
      subst ha
      walk_at "pr"
      refine cd_sortR ?_
      walk_at "pr"
      refine cd_tupL ?_
      rfl
  · walk_at "pr"
    refine ed_tup ?_
    walk_at "pr"
    refine od_ixTi (j := 0) rfl rfl ?_
    walk_at "pr"
    refine od_ixLi (j := 0) rfl rfl ?_
    walk_at "pr"
    refine od_ixLi (j := 1) rfl rfl ?_
    walk_at "pr"
    refine od_ixLi (j := 2) rfl rfl ?_
    walk_at "pr"
    refine ⟨by show 4 ≤ 100000; decide, ?_⟩
    intro a e
    simp only [List.cons.injEq, and_true] at e
    rw [← scD_inj e]
    rfl
theorem ed_asc {Γ : Cn} {δ : List Sl} {Pq : Dt → Prop} {te : TE} (h : ED Γ te δ fun d => ∃ a, d = scD a ∧ ScOk a ∧ Pq (scD (asc4 a))) : ED Γ (tCall (spAsc Γ.W.K) [] L2.E0 (tCons te tNil)) δ Pq :=
  ed_call (ad_cons (h.imp fun d ⟨r, e, hr, p⟩ => ad_nil ⟨rfl, ⟨r, by rw [e], hr⟩, fun x hx => by rw [hx r (by rw [e])]; exact p⟩))
/-! ### _law_weights -/
abbrev s__law_weights : Stmt := top 30
abbrev N__law_weights : List Str := ["_law_scales"]
theorem sc__law_weights : FnScope N__law_weights ["_law_scales"] (defScope s__law_weights) := ⟨rfl, rfl, rfl, by decide +kernel, rfl, by decide +kernel, by decide +kernel⟩
theorem sl__law_weights (d0 : Dt) : slots N__law_weights.length [d0] = [.dat d0] := rfl
def resWts (C : Addr) : List Dt → Dt → Prop := fun ds r => ∀ a, ds = [scD a] → r = .obj C (fW (asc4 a))
abbrev spWts (K : PySem.W.Frag) (C : Addr) : Sp := spW K 1 preSc (resWts C)
theorem ok_wts {f : Addr} {fd : FuncData} (F : Fun K "_law_weights" "_law_weights" s__law_weights f fd) (T : Txt K mg C) (i_Weights_0_page_marks_links_templates : ClIK P w K mg base 3 C "Weights" 0 ["page", "marks", "links", "templates"] gV4 (spInitW K C)) : FnOk P w K mg base L2.CX0 5 f fd ["_law_scales"] (spWts K C) := by
  refine F.ok sc__law_weights (fun vs H Q E h => h.1) (fun cdv A outer s H vs Q E hr h => ?_)
  have hu65 := hr.units65
  refine ⟨_, (pss_one (ps_ret (pe_mkK0 i_Weights_0_page_marks_links_templates hr (by decide) (by rfl) (pk_cons (pe_ix (IxR.wk (r := rIx) (K := K) ix_seq rfl) (pv 0) pe_int (fun _ _ => rfl)) (pk_cons (pe_ix (IxR.wk (r := rIx) (K := K) ix_seq rfl) (pv 0) pe_int (fun _ _ => rfl)) (pk_cons (pe_ix (IxR.wk (r := rIx) (K := K) ix_seq rfl) (pv 0) pe_int (fun _ _ => rfl)) (pk_cons (pe_ix (IxR.wk (r := rIx) (K := K) ix_seq rfl) (pv 0) pe_int (fun _ _ => rfl)) pk_nil))))))), ?_⟩
  try dsimp only [cxOf, Cx.nox]
  refine body_of (N := N__law_weights) (fun Γ ds hK hl hp => ?_) h
  subst hK
  obtain ⟨⟨p, m, l, t⟩, rfl, ha⟩ := hp
  rw [sl__law_weights]
  walk_at "pr"
  refine ed_mk4 ?_
  walk_at "pr"
  refine od_ixTi (j := 0) rfl rfl ?_
  walk_at "pr"
  refine od_ixTi (j := 1) rfl rfl ?_
  walk_at "pr"
  refine od_ixTi (j := 2) rfl rfl ?_
  walk_at "pr"
  refine od_ixTi (j := 3) rfl rfl ?_
  walk_at "pr"
  refine ⟨(p, m, l, t), rfl, ha, ?_⟩
  intro a' e
  simp only [List.cons.injEq, and_true] at e
  rw [scD_inj e]
end
end Pd.K31

set_option Elab.async false
set_option linter.all false
set_option maxRecDepth 100000
set_option maxHeartbeats 4000000
namespace Pd.K31
open PySem PySem.Spec PyProof.Rows L2 Pd
local macro_rules | `(tactic| walk_at "p0") => `(tactic| first
  | with_reducible refine sd_seq ?_ | with_reducible refine sd_ret ?_ | with_reducible refine sd_if ?_ | with_reducible refine sd_asgNil ?_ | with_reducible refine sd_asg ?_ | with_reducible refine sd_next ?_ | with_reducible refine sd_parD ?_ | with_reducible refine sd_par3 ?_
  | ((with_reducible refine' ed_var ?hv ?_); (case hv => rfl)) | with_reducible refine ed_int ?_ | with_reducible refine ed_str ?_ | with_reducible refine ed_bl ?_ | with_reducible refine ed_non ?_ | with_reducible refine ed_raw ?_
  | with_reducible refine ed_op ?_ | with_reducible refine ed_cb ?_ | with_reducible refine ra_cons ?_ | with_reducible refine ra_nil ?_ | with_reducible refine ad_cons ?_ | with_reducible refine ad_nil ?_ | with_reducible refine ed_chain ?_ | with_reducible refine ed_neg ?_ | with_reducible refine ed_fld ?_ | with_reducible refine ed_isN ?_
  | with_reducible refine td_test ?_ | with_reducible refine td_B ?_ | with_reducible refine td_not ?_ | with_reducible refine td_and ?_ | with_reducible refine td_or ?_ | with_reducible refine ed_andV ?_ | with_reducible refine ed_orV ?_ | with_reducible refine ed_notV ?_ | with_reducible refine ed_if ?_
  | with_reducible refine ED.rd ?_ | with_reducible refine gd_name ?_ | with_reducible refine op_none ?_ | with_reducible refine op_some ?_
  | with_reducible refine od_addI ?_ | with_reducible refine od_subI ?_ | with_reducible refine od_lt ?_ | with_reducible refine od_le ?_ | with_reducible refine od_gt ?_ | with_reducible refine od_ge ?_ | with_reducible refine od_eqI ?_ | with_reducible refine od_neI ?_ | with_reducible refine od_eqS ?_ | with_reducible refine od_neS ?_
  | with_reducible refine cd_int ?_ | with_reducible refine cd_abs ?_ | with_reducible refine cd_max2 ?_ | with_reducible refine cd_min2 ?_ | with_reducible refine cd_lenScr ?_ | ((with_reducible refine cd_lenS ?hz ?_); (case hz => first | decide | omega)) | with_reducible refine cd_lenL ?_ | with_reducible refine cd_lenT ?_
  | with_reducible refine ⟨_, rfl, ?_⟩
  | dsimp only [List.set_cons_zero, List.set_cons_succ]
  | refine ⟨fun _ => ?_, fun z => Bool.noConfusion z⟩ | refine ⟨fun z => Bool.noConfusion z, fun _ => ?_⟩)
local macro_rules | `(tactic| walk_at "p1") => `(tactic| first
  | ((with_reducible refine' ed_stk ?hd ?hM ?hJ ?hz ?hj ?_); (case hd => rfl); (case hM => assumption); (case hJ => assumption); (case hz => first | exact (rfl : (0 : Int) = ((0 : Nat) : Int)) | exact (rfl : (1 : Int) = ((1 : Nat) : Int)) | exact (rfl : (2 : Int) = ((2 : Nat) : Int))); (case hj => decide); intro x hx; (try have hx0 := hx.1 rfl); (try have hx1 := hx.2 rfl))
  | walk_at "p0"
  | ((with_reducible refine od_mod ?hc ?_); (case hc => first | decide | omega))
  | ((with_reducible refine od_mulI ?hc ?_); (case hc => first | exact .inl ⟨by decide, by decide⟩ | exact .inr ⟨by decide, by decide⟩ | exact .inl ⟨by omega, by omega⟩ | exact .inr ⟨by omega, by omega⟩))
  | ((with_reducible refine od_div ?hc ?_); (case hc => first | exact wide_div (b := 10) (by decide) (by decide) (by decide) (by decide) | exact wide_div (b := 10) (by omega) (by omega) (by decide) (by decide)))
  | ((with_reducible refine od_pow ?hc ?_); (case hc => exact ⟨by decide, by decide, by decide⟩)))
local macro_rules | `(tactic| walk_at "pr") => `(tactic| repeat walk_at "p1")

section
variable {P : Program} {w : World} {K : PySem.W.Frag} {mg : Str → Option Value} {base : Heap} {C : Addr}
/-! ### _law_opposite -/
abbrev s__law_opposite : Stmt := top 35
abbrev N__law_opposite : List Str := ["_law_scales", "_law_found", "_law_row_here", "_law_name_here", "_law_scale"]
theorem sc__law_opposite : FnScope N__law_opposite ["_law_scales"] (defScope s__law_opposite) := ⟨rfl, rfl, rfl, by decide +kernel, rfl, by decide +kernel, by decide +kernel⟩
theorem sl__law_opposite (d0 : Dt) : slots N__law_opposite.length [d0] = [.dat d0, .un, .un, .un, .un] := rfl
def resOpp4 : List Dt → Dt → Prop := fun ds r => ∀ a, ds = [scD a] → r = scD (opp4 a)
abbrev spOpp4 (K : PySem.W.Frag) : Sp := spW K 1 preSc resOpp4
theorem ok_opp4 {f : Addr} {fd : FuncData} (F : Fun K "_law_opposite" "_law_opposite" s__law_opposite f fd) (T : Txt K mg C) : FnOk P w K mg base L2.CX0 1 f fd ["_law_scales"] (spOpp4 K) := by
  refine F.ok sc__law_opposite (fun vs H Q E h => h.1) (fun cdv A outer s H vs Q E hr h => ?_)
  have hu65 := hr.units65
  refine ⟨_, (pss_cons (ps_setLc (i := 1) (own := [("_law_row_here", 2)]) (by rfl) sc__law_opposite.nd rfl rfl (sw_true rfl rfl rfl (by decide +kernel)) (pi_tupK (K := K) (pe_slice (slAnyK (K := K) rfl) (pv 0) (po_some pe_int) po_none) rfl) (blkOk_by (own := [("_law_row_here", 2)]) (N := N__law_opposite) (sc := defScope s__law_opposite) (by decide +kernel)) (fun _ _ _ _ _ => (pg_name (i := 2) sc__law_opposite.nd rfl (Or.inl rfl))) (fun _ _ _ _ _ => pts_nil) (fun _ _ _ _ _ => (pe_callTy (CallR.wk (r := rTupOf) (K := K) callTupOf rfl) (by rfl) T.b_tuple (by decide +kernel) (pa_cons (pe_lc (own := [("_law_name_here", 3), ("_law_scale", 4)]) (by rfl) sc__law_opposite.nd (pi_tupK (K := K) (pv 2) rfl) (blkOk_by (own := [("_law_name_here", 3), ("_law_scale", 4)]) (N := N__law_opposite) (by kernel_rfl)) (fun _ _ _ _ _ => (pg_tupK (K := K) (n := 2) rfl (pgs_cons (pg_name (i := 3) sc__law_opposite.nd rfl (Or.inl rfl)) (pgs_cons (pg_name (i := 4) sc__law_opposite.nd rfl (Or.inl rfl)) pgs_nil)) rfl)) (fun _ _ _ _ _ => pts_nil) (fun _ _ _ _ _ => (pe_tup (pa_cons (pv 3) (pa_cons (pe_un un_neg (pv 4)) pa_nil))))) pa_nil))))
      (pss_one (ps_ret (pe_tup (pa_cons (pe_un un_neg (pe_ix (IxR.wk (r := rIx) (K := K) ix_seq rfl) (pv 0) pe_int (fun _ _ => rfl))) (pa_cons (pe_ix (IxR.wk (r := rIx) (K := K) ix_seq rfl) (pv 1) pe_int (fun _ _ => rfl)) (pa_cons (pe_ix (IxR.wk (r := rIx) (K := K) ix_seq rfl) (pv 1) pe_int (fun _ _ => rfl)) (pa_cons (pe_ix (IxR.wk (r := rIx) (K := K) ix_seq rfl) (pv 1) pe_int (fun _ _ => rfl)) pa_nil)))))))), ?_⟩
  try dsimp only [cxOf, Cx.nox]
  refine body_of (N := N__law_opposite) (fun Γ ds hK hl hp => ?_) h
  subst hK
  obtain ⟨⟨p, m, l, t⟩, rfl, hp, hm, hl', ht⟩ := hp
  rw [sl__law_opposite]
  walk_at "pr"
  refine NL.ed (nl_lcMap (α := Row) (js := [2]) (by decide) (wd_tup (ed_sl ?_)))
  walk_at "pr"
  refine .inr (.inr (.inl ⟨_, rfl, _, rfl, by show 3 ≤ 100000; decide, [m, l, t], rowD, fun r => rowD (opp r), rfl, fun r hr => ?_, ?_⟩))
  · have hr : RowOk r := by
      simp only [List.mem_cons, List.not_mem_nil, or_false] at hr
      rcases hr with rfl | rfl | rfl
      · exact hm
      · exact hl'
      · exact ht
    have hlen := hr.len
    refine gd_name ?_
    walk_at "pr"
    refine NL.ed (nl_lcMap (α := Str × Int) (js := [3] ++ ([4] ++ [])) (by decide) (wd_tup ?_))
    refine ed_var rfl ?_
    refine ⟨_, rfl, by rw [List.length_map]; omega, r, prD, fun p => prD (ngp p), rfl, fun p hp => ?_, ?_⟩
    · refine gd_tup ⟨_, rfl, rfl, gds_cons (gd_name (gds_cons (gd_name (gds_nil ?_))))⟩
      walk_at "pr"
      refine ed_tup ?_
      walk_at "pr"
      exact ⟨by show 2 ≤ 100000; decide, rfl⟩
    · walk_at "pr"
      refine cd_tupL ?_
      show Dt.tup (r.map fun p => prD (ngp p)) = Dt.tup ((r.map ngp).map prD)
      rw [List.map_map]
      rfl
  · walk_at "pr"
    refine ed_tup ?_
    walk_at "pr"
    refine od_ixTi (j := 0) rfl rfl ?_
    walk_at "pr"
    refine od_ixLi (j := 0) rfl rfl ?_
    walk_at "pr"
    refine od_ixLi (j := 1) rfl rfl ?_
    walk_at "pr"
    refine od_ixLi (j := 2) rfl rfl ?_
    walk_at "pr"
    refine ⟨by show 4 ≤ 100000; decide, ?_⟩
    intro a e
    simp only [List.cons.injEq, and_true] at e
    rw [← scD_inj e]
    rfl
theorem ed_opp4 {Γ : Cn} {δ : List Sl} {Pq : Dt → Prop} {te : TE} (h : ED Γ te δ fun d => ∃ a, d = scD a ∧ ScOk a ∧ Pq (scD (opp4 a))) : ED Γ (tCall (spOpp4 Γ.W.K) [] L2.E0 (tCons te tNil)) δ Pq :=
  ed_call (ad_cons (h.imp fun d ⟨r, e, hr, p⟩ => ad_nil ⟨rfl, ⟨r, by rw [e], hr⟩, fun x hx => by rw [hx r (by rw [e])]; exact p⟩))
/-! ### _law_row -/
abbrev twelveS : Str := "abcdefghijkl"
/-- drawn: each name is the base and a sign, no two alike -/
structure RowB (b : Str) (r : Row) : Prop where
  len : r.length ≤ 12
  nd : (r.map Prod.fst).Nodup
  el : ∀ p ∈ r, (∃ c ∈ twelveS.cps.toList, p.1 = b ++ ⟨#[c]⟩) ∧ Sm p.2
theorem twelve_signs : ∀ c ∈ twelveS.cps.toList, c ∈ signsS.cps.toList := by decide +kernel
theorem Sm.wide {x : Int} (h : Sm x) : Sw x := by
  have : (2 : Int) ^ 150 > 2 ^ 140 := by decide +kernel
  obtain ⟨h1, h2⟩ := h
  exact ⟨by omega, by omega⟩
theorem RowB.ok {b : Str} {r : Row} (h : RowB b r) (hb : Nm 7 b) : RowOk r := ⟨h.len, h.nd, fun p hp => by
  obtain ⟨⟨c, hc, e⟩, hs⟩ := h.el p hp
  exact ⟨e ▸ hb.app (twelve_signs c hc), Sm.wide hs⟩⟩
theorem app_inj {b : Str} {c d : Nat} (h : b ++ (⟨#[c]⟩ : Str) = b ++ ⟨#[d]⟩) : c = d := by
  have := congrArg (fun z : Str => z.cps.toList) h
  simp only [cps_app] at this
  have e := List.append_cancel_left this
  simpa using e
abbrev s__law_row : Stmt := top 31
abbrev N__law_row : List Str := ["_law_pool_here", "_law_base", "_law_many", "_law_found", "_law_k"]
theorem sc__law_row : FnScope N__law_row ["_law_pool_here", "_law_base"] (defScope s__law_row) := ⟨rfl, rfl, rfl, by decide +kernel, rfl, by decide +kernel, by decide +kernel⟩
theorem sl__law_row (d0 d1 : Dt) : slots N__law_row.length [d0, d1] = [.dat d0, .dat d1, .un, .un, .un] := rfl
def preLRow : Wo → List Dt → Prop := fun W ds => ∃ d b, ds = [d, .str b] ∧ PreStk W d ∧ Nm 7 b
def resLRow : List Dt → Dt → Prop := fun ds r => ∀ d b, ds = [d, .str b] → ∃ x, r = rowD x ∧ RowB b x
abbrev spLRow (K : PySem.W.Frag) : Sp := spW K 2 preLRow resLRow
theorem twelve_at {k : Nat} (hk : k < 12) : ∃ c, twelveS.cps.toList[k]? = some c ∧ c ∈ twelveS.cps.toList := by
  have h : k < twelveS.cps.toList.length := by
    have : twelveS.cps.toList.length = 12 := by decide +kernel
    omega
  exact ⟨_, List.getElem?_eq_getElem h, List.getElem_mem h⟩
theorem nodup_on {α β : Type} {f : α → β} : ∀ {l : List α}, (∀ a ∈ l, ∀ b ∈ l, f a = f b → a = b) → l.Nodup → (l.map f).Nodup
  | [], _, _ => by simp
  | a :: l, h, hn => by
    have hn := List.nodup_cons.mp hn
    rw [List.map_cons]
    refine List.nodup_cons.mpr ⟨fun q => ?_, nodup_on (fun x hx y hy => h x (List.mem_cons_of_mem _ hx) y (List.mem_cons_of_mem _ hy)) hn.2⟩
    obtain ⟨y, hy, e⟩ := List.mem_map.mp q
    have := h y (List.mem_cons_of_mem _ hy) a List.mem_cons_self e
    exact hn.1 (this ▸ hy)
theorem twelve_nd : twelveS.cps.toList.Nodup := by decide +kernel
theorem ok_row {f : Addr} {fd : FuncData} (F : Fun K "_law_row" "_law_row" s__law_row f fd) (T : Txt K mg C) (c__law_draw : Cl P w K mg base 1 "_law_draw" (spDraw K)) (c__law_integer : Cl P w K mg base 2 "_law_integer" (spInt K)) (c__law_pages : Cl P w K mg base 2 "_law_pages" (spPages K)) : FnOk P w K mg base L2.CX0 3 f fd ["_law_pool_here", "_law_base"] (spLRow K) := by
  refine F.ok sc__law_row (fun vs H Q E h => h.1) (fun cdv A outer s H vs Q E hr h => ?_)
  have hu65 := hr.units65
  refine ⟨_, (pss_cons (ps_set (i := 2) sc__law_row.nd rfl (Or.inl rfl) (pe_ix (IxR.wk (r := rIx) (K := K) ix_seq rfl) (pe_lst (pa_cons pe_int (pa_cons pe_int (pa_cons pe_int (pa_cons pe_int (pa_cons pe_int pa_nil)))))) (pe_cl c__law_draw hr (by decide) (by rfl) (pa_cons (pv 0) (pa_cons pe_int pa_nil))) (fun _ _ => rfl)))
      (pss_cons (ps_set (i := 3) sc__law_row.nd rfl (Or.inr rfl) (pe_lc (own := [("_law_k", 4)]) (by rfl) sc__law_row.nd (pi_range1 (by rfl) T.b_range (pa_cons (pv 2) pa_nil)) (blkOk_by (own := [("_law_k", 4)]) (N := N__law_row) (sc := defScope s__law_row) (by decide +kernel)) (fun _ _ _ _ _ => (pg_name (i := 4) sc__law_row.nd rfl (Or.inl rfl))) (fun _ _ _ _ _ => pts_nil) (fun _ _ _ _ _ => (pe_tup (pa_cons (pe_op (OpR.wk (r := rAddA) (K := K) opAdd rfl) (pv 1) (pe_ix (IxR.wk (r := rIx) (K := K) ix_seq rfl) pe_str (pv 4) (fun _ _ => rfl))) (pa_cons (pe_cl c__law_integer hr (by decide) (by rfl) (pa_cons (pv 0) pa_nil)) pa_nil))))))
      (pss_one (ps_ret (pe_callTy (CallR.wk (r := rTupOf) (K := K) callTupOf rfl) (by rfl) T.b_tuple (by decide +kernel) (pa_cons (pe_lc (own := [("_law_k", 4)]) (by rfl) sc__law_row.nd (pi_tupK (K := K) (pe_cl c__law_pages hr (by decide) (by rfl) (pa_cons (pv 0) (pa_cons (pv 2) (pa_cons (pv 2) pa_nil)))) rfl) (blkOk_by (own := [("_law_k", 4)]) (N := N__law_row) (sc := defScope s__law_row) (by decide +kernel)) (fun _ _ _ _ _ => (pg_name (i := 4) sc__law_row.nd rfl (Or.inl rfl))) (fun _ _ _ _ _ => pts_nil) (fun _ _ _ _ _ => (pe_ix (IxR.wk (r := rIx) (K := K) ix_seq rfl) (pv 3) (pv 4) (fun _ _ => rfl)))) pa_nil)))))), ?_⟩
  try dsimp only [cxOf, Cx.nox]
  refine body_of (N := N__law_row) (fun Γ ds hK hl hp => ?_) h
  subst hK
  obtain ⟨d, b, rfl, hS, hb⟩ := hp
  rw [sl__law_row]
  have hbl := hb.len
  walk_at "pr"
  refine NL.ed (nl_lst ?_)
  walk_at "pr"
  refine ⟨by show 5 ≤ 100000; decide, ?_⟩
  walk_at "pr"
  refine ed_draw rfl hS ?_
  walk_at "pr"
  refine ⟨by decide, by decide, fun k hk => ?_⟩
  obtain ⟨n, hn, hn12⟩ : ∃ n : Nat, ([Dt.int 12, Dt.int 0, Dt.int 1, Dt.int 2, Dt.int 3] : List Dt)[k]? = some (.int (n : Int)) ∧ n ≤ 12 := by
    match k, hk with
    | 0, _ => exact ⟨12, rfl, by decide⟩
    | 1, _ => exact ⟨0, rfl, by decide⟩
    | 2, _ => exact ⟨1, rfl, by decide⟩
    | 3, _ => exact ⟨2, rfl, by decide⟩
    | 4, _ => exact ⟨3, rfl, by decide⟩
    | k + 5, h => exact absurd h (by omega)
  refine od_ixL hn ?_
  walk_at "pr"
  refine NL.ed (nl_lc (js := [4]) (by decide) (wd_range1 ?_))
  walk_at "pr"
  refine ⟨by omega, by omega, by rw [upto_len]; omega, fun i acc => ∃ fs : Row, acc = fs.map prD ∧ fs.length = i ∧ ∀ (j : Nat) p, fs[j]? = some p → (∃ c, twelveS.cps.toList[j]? = some c ∧ p.1 = b ++ ⟨#[c]⟩) ∧ Sm p.2, ⟨[], rfl, rfl, fun j p h => by simp at h⟩, ?_, ?_⟩
  · rintro i x acc hx ⟨fs, rfl, hfl, hf⟩
    obtain ⟨hi, rfl⟩ := upto_get hx
    have hi : i < 12 := by omega
    obtain ⟨c, hc, hcm⟩ := twelve_at hi
    refine gd_name ?_
    refine td_yes ⟨fun _ => ?_, fun z => by cases z⟩
    walk_at "pr"
    refine ed_tup ?_
    walk_at "pr"
    refine od_ixSi (j := i) (c := c) (by omega) (by decide +kernel) hc ?_
    refine od_addS (by show b.length + 1 ≤ 100000; omega) ?_
    walk_at "pr"
    refine ed_call ?_
    walk_at "pr"
    refine ⟨rfl, ⟨d, rfl, hS⟩, ?_⟩
    rintro _ ⟨x, rfl, hx'⟩
    walk_at "pr"
    refine ⟨by show 2 ≤ 100000; decide, fs ++ [(b ++ ⟨#[c]⟩, x)], ?_, ?_, fun j p hj => ?_⟩
    · rw [List.map_append]
      rfl
    · rw [List.length_append, hfl]
      rfl
    · rcases Nat.lt_or_ge j fs.length with q | q
      · rw [List.getElem?_append_left q] at hj
        exact hf j p hj
      · rw [List.getElem?_append_right q] at hj
        have hj0 : j - fs.length = 0 := by
          cases z : j - fs.length with
          | zero => rfl
          | succ z' => rw [z] at hj; simp at hj
        rw [hj0] at hj
        cases hj
        have : j = i := by omega
        subst this
        exact ⟨⟨c, hc, rfl⟩, hx'⟩
  · rintro acc ⟨fs, rfl, hfl, hf⟩
    rw [upto_len] at hfl
    have hfl : fs.length = n := by omega
    walk_at "pr"
    refine NL.ed (nl_lcMap (α := Nat) (js := [4]) (by decide) (wd_tup (ed_call ?_)))
    walk_at "pr"
    refine ⟨rfl, ⟨d, n, n, rfl, hS, Nat.le_refl n, by omega⟩, fun r hr => ?_⟩
    obtain ⟨ns, rfl, hnl, hnd, hlt⟩ := hr d n n rfl
    have hat : ∀ k ∈ ns, ∃ p, fs[k]? = some p := fun k hk => ⟨_, List.getElem?_eq_getElem (by have := hlt k hk; omega)⟩
    refine ⟨_, rfl, by rw [List.length_map]; omega, ns, nat1, fun k => prD (fs.getD k ("", 0)), rfl, fun k hk => ?_, ?_⟩
    · obtain ⟨p, hp⟩ := hat k hk
      refine gd_name ?_
      walk_at "pr"
      refine od_ixL (d := prD p) (by rw [List.getElem?_map, hp]; rfl) ?_
      show prD p = prD (fs.getD k ("", 0))
      rw [List.getD_eq_getElem?_getD, hp]
      rfl
    · walk_at "pr"
      refine cd_tupL ?_
      intro d' b' e
      simp only [List.cons.injEq, Dt.str.injEq, and_true] at e
      obtain ⟨_, rfl⟩ := e
      have hg : ∀ k ∈ ns, fs[k]? = some (fs.getD k ("", 0)) := fun k hk => by
        obtain ⟨p, hp⟩ := hat k hk
        rw [List.getD_eq_getElem?_getD, hp]
        rfl
      refine ⟨ns.map fun k => fs.getD k ("", 0), ?_, ?_, ?_, fun p hp => ?_⟩
      · unfold rowD
        rw [List.map_map]
        rfl
      · rw [List.length_map]
        omega
      · rw [List.map_map]
        refine nodup_on (fun k hk j hj e => ?_) hnd
        obtain ⟨⟨c, hc, e1⟩, _⟩ := hf k _ (hg k hk)
        obtain ⟨⟨c', hc', e2⟩, _⟩ := hf j _ (hg j hj)
        have e3 : b ++ (⟨#[c]⟩ : Str) = b ++ ⟨#[c']⟩ := by
          rw [← e1, ← e2]
          exact e
        rw [app_inj e3] at hc
        exact (List.getElem?_inj (List.getElem?_eq_some_iff.mp hc).1 twelve_nd).mp (hc.trans hc'.symm)
      · obtain ⟨k, hk, rfl⟩ := List.mem_map.mp hp
        obtain ⟨⟨c, hc, e⟩, hs⟩ := hf k _ (hg k hk)
        exact ⟨⟨c, List.mem_of_getElem? hc, e⟩, hs⟩
end
end Pd.K31

set_option Elab.async false
set_option linter.all false
set_option maxRecDepth 100000
set_option maxHeartbeats 4000000
namespace Pd.K31
open PySem PySem.Spec PyProof.Rows L2 Pd
local macro_rules | `(tactic| walk_at "p0") => `(tactic| first
  | with_reducible refine sd_seq ?_ | with_reducible refine sd_ret ?_ | with_reducible refine sd_if ?_ | with_reducible refine sd_asgNil ?_ | with_reducible refine sd_asg ?_ | with_reducible refine sd_next ?_ | with_reducible refine sd_parD ?_ | with_reducible refine sd_par3 ?_
  | ((with_reducible refine' ed_var ?hv ?_); (case hv => rfl)) | with_reducible refine ed_int ?_ | with_reducible refine ed_str ?_ | with_reducible refine ed_bl ?_ | with_reducible refine ed_non ?_ | with_reducible refine ed_raw ?_
  | with_reducible refine ed_op ?_ | with_reducible refine ed_cb ?_ | with_reducible refine ra_cons ?_ | with_reducible refine ra_nil ?_ | with_reducible refine ad_cons ?_ | with_reducible refine ad_nil ?_ | with_reducible refine ed_chain ?_ | with_reducible refine ed_neg ?_ | with_reducible refine ed_fld ?_ | with_reducible refine ed_isN ?_
  | with_reducible refine td_test ?_ | with_reducible refine td_B ?_ | with_reducible refine td_not ?_ | with_reducible refine td_and ?_ | with_reducible refine td_or ?_ | with_reducible refine ed_andV ?_ | with_reducible refine ed_orV ?_ | with_reducible refine ed_notV ?_ | with_reducible refine ed_if ?_
  | with_reducible refine ED.rd ?_ | with_reducible refine gd_name ?_ | with_reducible refine op_none ?_ | with_reducible refine op_some ?_
  | with_reducible refine od_addI ?_ | with_reducible refine od_subI ?_ | with_reducible refine od_lt ?_ | with_reducible refine od_le ?_ | with_reducible refine od_gt ?_ | with_reducible refine od_ge ?_ | with_reducible refine od_eqI ?_ | with_reducible refine od_neI ?_ | with_reducible refine od_eqS ?_ | with_reducible refine od_neS ?_
  | with_reducible refine cd_int ?_ | with_reducible refine cd_abs ?_ | with_reducible refine cd_max2 ?_ | with_reducible refine cd_min2 ?_ | with_reducible refine cd_lenScr ?_ | ((with_reducible refine cd_lenS ?hz ?_); (case hz => first | decide | omega)) | with_reducible refine cd_lenL ?_ | with_reducible refine cd_lenT ?_
  | with_reducible refine ⟨_, rfl, ?_⟩
  | dsimp only [List.set_cons_zero, List.set_cons_succ]
  | refine ⟨fun _ => ?_, fun z => Bool.noConfusion z⟩ | refine ⟨fun z => Bool.noConfusion z, fun _ => ?_⟩)
local macro_rules | `(tactic| walk_at "p1") => `(tactic| first
  | ((with_reducible refine' ed_stk ?hd ?hM ?hJ ?hz ?hj ?_); (case hd => rfl); (case hM => assumption); (case hJ => assumption); (case hz => first | exact (rfl : (0 : Int) = ((0 : Nat) : Int)) | exact (rfl : (1 : Int) = ((1 : Nat) : Int)) | exact (rfl : (2 : Int) = ((2 : Nat) : Int))); (case hj => decide); intro x hx; (try have hx0 := hx.1 rfl); (try have hx1 := hx.2 rfl))
  | walk_at "p0"
  | ((with_reducible refine od_mod ?hc ?_); (case hc => first | decide | omega))
  | ((with_reducible refine od_mulI ?hc ?_); (case hc => first | exact .inl ⟨by decide, by decide⟩ | exact .inr ⟨by decide, by decide⟩ | exact .inl ⟨by omega, by omega⟩ | exact .inr ⟨by omega, by omega⟩))
  | ((with_reducible refine od_div ?hc ?_); (case hc => first | exact wide_div (b := 10) (by decide) (by decide) (by decide) (by decide) | exact wide_div (b := 10) (by omega) (by omega) (by decide) (by decide)))
  | ((with_reducible refine od_pow ?hc ?_); (case hc => exact ⟨by decide, by decide, by decide⟩)))
local macro_rules | `(tactic| walk_at "pr") => `(tactic| repeat walk_at "p1")

section
variable {P : Program} {w : World} {K : PySem.W.Frag} {mg : Str → Option Value} {base : Heap} {C : Addr}
/-! ### _law_near_row -/
abbrev s__law_near_row : Stmt := top 32
abbrev N__law_near_row : List Str := ["_law_pool_here", "_law_row_here", "_law_base", "_law_way", "_law_at", "_law_name_here", "_law_scale", "_law_one"]
theorem sc__law_near_row : FnScope N__law_near_row ["_law_pool_here", "_law_row_here", "_law_base"] (defScope s__law_near_row) := ⟨rfl, rfl, rfl, by decide +kernel, rfl, by decide +kernel, by decide +kernel⟩
theorem sl__law_near_row (d0 d1 d2 : Dt) : slots N__law_near_row.length [d0, d1, d2] = [.dat d0, .dat d1, .dat d2, .un, .un, .un, .un, .un] := rfl
def preNear1 : Wo → List Dt → Prop := fun W ds => ∃ d r b, ds = [d, rowD r, .str b] ∧ PreStk W d ∧ RowB b r ∧ Nm 7 b
def resRowOk : List Dt → Dt → Prop := fun _ r => ∃ x, r = rowD x ∧ RowOk x
abbrev spNear1 (K : PySem.W.Frag) : Sp := spW K 3 preNear1 resRowOk
theorem rowD_app (r s : Row) : Dt.tup (r.map prD ++ s.map prD) = rowD (r ++ s) := by
  unfold rowD
  rw [List.map_append]
theorem not_base {b : Str} {r : Row} (h : RowB b r) {c : Nat} (hc : c ∉ twelveS.cps.toList) : b ++ (⟨#[c]⟩ : Str) ∉ r.map Prod.fst := by
  intro q
  obtain ⟨p, hp, e⟩ := List.mem_map.mp q
  obtain ⟨⟨c', hc', e'⟩, _⟩ := h.el p hp
  rw [e'] at e
  exact hc (app_inj e ▸ hc')
theorem Sw.zero : Sw 0 := ⟨by decide +kernel, by decide +kernel⟩
theorem Sm.succ {x : Int} (h : Sm x) : Sw (x + 1) := by
  have : (2 : Int) ^ 150 > 2 ^ 140 + 1 := by decide +kernel
  obtain ⟨h1, h2⟩ := h
  exact ⟨by omega, by omega⟩
theorem ok_near1 {f : Addr} {fd : FuncData} (F : Fun K "_law_near_row" "_law_near_row" s__law_near_row f fd) (T : Txt K mg C) (c__law_draw : Cl P w K mg base 1 "_law_draw" (spDraw K)) : FnOk P w K mg base L2.CX0 2 f fd ["_law_pool_here", "_law_row_here", "_law_base"] (spNear1 K) := by
  refine F.ok sc__law_near_row (fun vs H Q E h => h.1) (fun cdv A outer s H vs Q E hr h => ?_)
  have hu65 := hr.units65
  refine ⟨_, (pss_cons (ps_set (i := 3) sc__law_near_row.nd rfl (Or.inl rfl) (pe_cl c__law_draw hr (by decide) (by rfl) (pa_cons (pv 0) (pa_cons pe_int pa_nil))))
      (pss_cons (ps_if (PW.pt (pw_and (pt_cmpR (OpR.wk (r := rEqA) (K := K) (opEq hr.units) rfl) (pv 3) pe_int (nomark _)) (pw_and1 (pt_cmpR op_lt (pe_callB (CallR.wk (r := Pd.rLen) (K := K) callLen rfl) (by rfl) T.b_len PySem.boot_len (pa_cons (pv 1) pa_nil)) pe_int (nomark _))))) (pss_one (ps_ret (pe_op (OpR.wk (r := rAddA) (K := K) opAdd rfl) (pe_revT (K := K) rfl (pv 1)) (pe_tup (pa_cons (pe_tup (pa_cons (pe_op (OpR.wk (r := rAddA) (K := K) opAdd rfl) (pv 2) pe_str) (pa_cons pe_int pa_nil))) pa_nil))))) pss_nil)
      (pss_cons (ps_if (PW.pt (pw_or (pt_cmpR (OpR.wk (r := rEqA) (K := K) (opEq hr.units) rfl) (pv 3) pe_int (nomark _)) (pw_or1 (pt_cmpR (OpR.wk (r := rEqA) (K := K) (opEq hr.units) rfl) (pv 1) (pe_tup pa_nil) (nomark _))))) (pss_one (ps_ret (pe_revT (K := K) rfl (pv 1)))) pss_nil)
      (pss_cons (ps_set (i := 4) sc__law_near_row.nd rfl (Or.inl rfl) (pe_cl c__law_draw hr (by decide) (by rfl) (pa_cons (pv 0) (pa_cons (pe_callB (CallR.wk (r := Pd.rLen) (K := K) callLen rfl) (by rfl) T.b_len PySem.boot_len (pa_cons (pv 1) pa_nil)) pa_nil))))
      (pss_cons (ps_if (pt_cmpR (OpR.wk (r := rEqA) (K := K) (opEq hr.units) rfl) (pv 3) pe_int (nomark _)) (pss_one (ps_ret (pe_op (OpR.wk (r := rAddA) (K := K) opAdd rfl) (pe_slice (slAnyK (K := K) rfl) (pv 1) po_none (po_some (pv 4))) (pe_slice (slAnyK (K := K) rfl) (pv 1) (po_some (pe_op (OpR.wk (r := rAddA) (K := K) opAdd rfl) (pv 4) pe_int)) po_none)))) pss_nil)
      (pss_cons (ps_asg (pe_ix (IxR.wk (r := rIx) (K := K) ix_seq rfl) (pv 1) (pv 4) (fun _ _ => rfl)) (pg_tupK (K := K) (n := 2) rfl (pgs_cons (pg_name (i := 5) sc__law_near_row.nd rfl (Or.inl rfl)) (pgs_cons (pg_name (i := 6) sc__law_near_row.nd rfl (Or.inl rfl)) pgs_nil)) rfl))
      (pss_cons (ps_set (i := 7) sc__law_near_row.nd rfl (Or.inl rfl) (pe_ifExp (pt_cmpR (OpR.wk (r := rEqA) (K := K) (opEq hr.units) rfl) (pv 3) pe_int (nomark _)) (pe_tup (pa_cons (pv 5) (pa_cons (pe_op (OpR.wk (r := rAddA) (K := K) opAdd rfl) (pv 6) pe_int) pa_nil))) (pe_tup (pa_cons (pe_op (OpR.wk (r := rAddA) (K := K) opAdd rfl) (pv 2) pe_str) (pa_cons (pv 6) pa_nil)))))
      (pss_one (ps_ret (pe_op (OpR.wk (r := rAddA) (K := K) opAdd rfl) (pe_op (OpR.wk (r := rAddA) (K := K) opAdd rfl) (pe_slice (slAnyK (K := K) rfl) (pv 1) po_none (po_some (pv 4))) (pe_tup (pa_cons (pv 7) pa_nil))) (pe_slice (slAnyK (K := K) rfl) (pv 1) (po_some (pe_op (OpR.wk (r := rAddA) (K := K) opAdd rfl) (pv 4) pe_int)) po_none))))))))))), ?_⟩
  try dsimp only [cxOf, Cx.nox]
  refine body_of (N := N__law_near_row) (fun Γ ds hK hl hp => ?_) h
  subst hK
  obtain ⟨d, r, b, rfl, hS, hr, hb⟩ := hp
  rw [sl__law_near_row]
  have hbl := hb.len
  have hlen := hr.len
  have hok := hr.ok hb
  have rev_ok : ∃ x, Dt.tup (r.map prD).reverse = rowD x ∧ RowOk x := ⟨r.reverse, by unfold rowD; rw [List.map_reverse], hok.perm (List.reverse_perm r)⟩
  refine sd_seq (sd_asg (ed_draw rfl hS ?_))
  walk_at "pr"
  refine ⟨by decide, by decide, fun k hk => ?_⟩
  refine sd_guard True ?_ fun _ => ?_
  · walk_at "pr"
    refine ⟨fun h1 => ?_, fun _ => ⟨(fun z => by cases z), fun _ => trivial⟩⟩
    walk_at "pr"
    refine cd_lenT ?_
    walk_at "pr"
    refine ⟨fun h2 => ?_, fun _ => trivial⟩
    have h2 : r.length < 12 := by
      have := of_decide_eq_true h2
      rw [List.length_map] at this
      omega
    walk_at "pr"
    refine ed_revT ?_
    walk_at "pr"
    refine ed_tup (ad_cons (ed_tup ?_))
    walk_at "pr"
    refine od_addS (by show b.length + 1 ≤ 100000; omega) ?_
    walk_at "pr"
    refine ⟨by show 2 ≤ 100000; decide, ?_⟩
    walk_at "pr"
    refine ⟨by show 1 ≤ 100000; decide, ?_⟩
    refine od_addT (by rw [List.length_reverse, List.length_map]; show r.length + 1 ≤ 100000; omega) ?_
    refine ⟨r.reverse ++ [(b ++ ⟨#[48]⟩, 0)], ?_, ?_, ?_, ?_⟩
    · rw [← rowD_app, List.map_reverse]
      rfl
    · rw [List.length_append, List.length_reverse]
      show r.length + 1 ≤ 12
      omega
    · rw [List.map_append, List.map_reverse]
      refine List.nodup_append.mpr ⟨(List.reverse_perm _).nodup_iff.mpr hr.nd, by simp, ?_⟩
      intro x hx y hy e
      subst e
      have : x = b ++ ⟨#[48]⟩ := by simpa using hy
      subst this
      exact not_base hr (by decide +kernel) (List.mem_reverse.mp hx)
    · intro p hp
      rcases List.mem_append.mp hp with hp | hp
      · exact hok.el p (List.mem_reverse.mp hp)
      · rw [List.mem_singleton.mp hp]
        exact ⟨hb.app (by decide +kernel), Sw.zero⟩
  refine sd_guard (r ≠ []) ?_ fun hne => ?_
  · walk_at "pr"
    refine ⟨fun h1 => ⟨fun _ => ?_, fun z => by cases z⟩, fun h1 => ?_⟩
    · walk_at "pr"
      refine ed_revT ?_
      walk_at "pr"
      exact rev_ok
    · walk_at "pr"
      refine ed_tup (ad_nil ⟨by decide, ?_⟩)
      show OD _ _ (rowD r) (rowD []) _
      refine od_eqR hok ⟨by decide, by simp, fun p hp => by simp at hp⟩ ?_
      walk_at "pr"
      refine ⟨fun h2 => ?_, fun h2 => of_decide_eq_false h2⟩
      walk_at "pr"
      refine ed_revT ?_
      walk_at "pr"
      exact rev_ok
  refine sd_seq (sd_asg (ed_draw rfl hS ?_))
  walk_at "pr"
  refine cd_lenT ?_
  rw [List.length_map]
  have hpos : 1 ≤ r.length := by
    cases r with
    | nil => exact absurd rfl hne
    | cons p r => simp
  refine ⟨_, rfl, by omega, by have e : (2 : Int) ^ 200 > 100000 := by decide
                               omega, fun n hn => ?_⟩
  have hn : n < r.length := by omega
  refine sd_guard True ?_ fun _ => ?_
  · walk_at "pr"
    refine ⟨fun h1 => ?_, fun _ => trivial⟩
    walk_at "pr"
    refine ed_sl ?_
    walk_at "pr"
    refine .inr (.inr (.inl ⟨_, rfl, ?_⟩))
    rw [cut_to _ n _ rfl]
    walk_at "pr"
    refine ed_sl ?_
    walk_at "pr"
    refine .inr (.inr (.inl ⟨_, rfl, ?_⟩))
    rw [cut_from _ (n + 1) _ (by omega)]
    refine od_addT (by rw [List.length_take, List.length_drop, List.length_map]; omega) ?_
    refine ⟨r.take n ++ r.drop (n + 1), ?_, ?_⟩
    · rw [← rowD_app, List.map_take, List.map_drop]
    · refine hok.sub ?_
      conv => rhs; rw [← List.take_append_drop n r]
      exact (List.Sublist.refl _).append (List.drop_sublist_drop_left r (Nat.le_succ n))
  obtain ⟨p, hp⟩ : ∃ p, r[n]? = some p := ⟨_, List.getElem?_eq_getElem hn⟩
  have hpm : p ∈ r := List.mem_of_getElem? hp
  obtain ⟨hp1, hp2⟩ := hr.el p hpm
  have split : r = r.take n ++ p :: r.drop (n + 1) := by
    conv => lhs; rw [← List.take_append_drop n r]
    rw [List.drop_eq_getElem_cons hn, (List.getElem?_eq_some_iff.mp hp).2]
  have sub : (r.take n ++ r.drop (n + 1)).Sublist r := by
    conv => rhs; rw [← List.take_append_drop n r]
    exact (List.Sublist.refl _).append (List.drop_sublist_drop_left r (Nat.le_succ n))
  have fin : ∀ q : Str × Int, Nm 8 q.1 → Sw q.2 → (q.1 = p.1 ∨ q.1 ∉ r.map Prod.fst) → ∃ x, Dt.tup ((r.map prD).take n ++ [prD q] ++ (r.map prD).drop (n + 1)) = rowD x ∧ RowOk x := by
    intro q h1 h2 h3
    refine ⟨r.take n ++ q :: r.drop (n + 1), ?_, ?_, ?_, ?_⟩
    · unfold rowD
      rw [List.map_append, List.map_cons, List.map_take, List.map_drop, List.append_assoc]
      rfl
    · rw [List.length_append, List.length_cons, List.length_take, List.length_drop]
      omega
    · rcases h3 with h3 | h3
      · have e : (r.take n ++ q :: r.drop (n + 1)).map Prod.fst = r.map Prod.fst := by
          conv => rhs; rw [split]
          rw [List.map_append, List.map_append, List.map_cons, List.map_cons, h3]
        rw [e]
        exact hr.nd
      · have hs : ((r.take n ++ r.drop (n + 1)).map Prod.fst).Nodup := hr.nd.sublist (sub.map _)
        have hnot : q.1 ∉ (r.take n ++ r.drop (n + 1)).map Prod.fst := fun z => h3 ((sub.map Prod.fst).subset z)
        have hpm2 : ((r.take n ++ q :: r.drop (n + 1)).map Prod.fst).Perm (q.1 :: (r.take n ++ r.drop (n + 1)).map Prod.fst) := by
          have := (List.perm_middle (a := q) (l₁ := r.take n) (l₂ := r.drop (n + 1))).map Prod.fst
          simpa using this
        exact hpm2.nodup_iff.mpr (List.nodup_cons.mpr ⟨hnot, hs⟩)
    · intro x hx
      rcases List.mem_append.mp hx with hx | hx
      · exact hok.el x (List.mem_of_mem_take hx)
      · rcases List.mem_cons.mp hx with rfl | hx
        · exact ⟨h1, h2⟩
        · exact hok.el x (List.mem_of_mem_drop hx)
  have hpN := (hok.el p hpm).1
  refine sd_seq (sd_asgG (js := [5] ++ ([6] ++ [])) ?_)
  walk_at "pr"
  refine od_ixT (d := prD p) (by rw [List.getElem?_map, hp]; rfl) ?_
  refine gd_tup ⟨_, rfl, rfl, gds_cons (gd_name (gds_cons (gd_name (gds_nil ?_))))⟩
  have last : ∀ q : Str × Int, Nm 8 q.1 → Sw q.2 → (q.1 = p.1 ∨ q.1 ∉ r.map Prod.fst) → SD Γ (tRet
      (tOp (rAddA Γ.W.K) (tOp (rAddA Γ.W.K) (tSl (rSlAny Γ.W.K) (tVar 1) tNoPart (tPart (tVar 4))) (tTup (tCons (tVar 7) tNil)))
        (tSl (rSlAny Γ.W.K) (tVar 1) (tPart (tOp (rAddA Γ.W.K) (tVar 4) (tC (V.int 1)))) tNoPart)))
      [.dat d, .dat (rowD r), .dat (.str b), .dat (.int (k : Int)), .dat (.int (n : Int)), .dat (.str p.1), .dat (.int p.2), .dat (prD q)] { nx := fun _ => resRowOk [d, rowD r, .str b] .non, rt := resRowOk [d, rowD r, .str b] } := by
    intro q h1 h2 h3
    walk_at "pr"
    refine ed_sl ?_
    walk_at "pr"
    refine .inr (.inr (.inl ⟨_, rfl, ?_⟩))
    rw [cut_to _ n _ rfl]
    walk_at "pr"
    refine ed_tup ?_
    walk_at "pr"
    refine ⟨by show 1 ≤ 100000; decide, ?_⟩
    refine od_addT (by rw [List.length_take, List.length_map]; show _ + 1 ≤ 100000; omega) ?_
    walk_at "pr"
    refine ed_sl ?_
    walk_at "pr"
    refine .inr (.inr (.inl ⟨_, rfl, ?_⟩))
    rw [cut_from _ (n + 1) _ (by omega)]
    refine od_addT (by rw [List.length_append, List.length_take, List.length_drop, List.length_map]; show _ + 1 + _ ≤ 100000; omega) ?_
    exact fin q h1 h2 h3
  walk_at "pr"
  refine ⟨fun h1 => ?_, fun h1 => ?_⟩
  · walk_at "pr"
    refine ed_tup ?_
    walk_at "pr"
    refine ⟨by show 2 ≤ 100000; decide, ?_⟩
    exact last (p.1, p.2 + 1) hpN (Sm.succ hp2) (.inl rfl)
  · walk_at "pr"
    refine ed_tup ?_
    walk_at "pr"
    refine od_addS (by show b.length + 1 ≤ 100000; omega) ?_
    walk_at "pr"
    refine ⟨by show 2 ≤ 100000; decide, ?_⟩
    exact last (b ++ ⟨#[49]⟩, p.2) (hb.app (by decide +kernel)) (Sm.wide hp2) (.inr (not_base hr (by decide +kernel)))
end
end Pd.K31

set_option Elab.async false
set_option linter.all false
set_option maxRecDepth 100000
set_option maxHeartbeats 4000000
namespace Pd.K31
open PySem PySem.Spec PyProof.Rows L2 Pd
local macro_rules | `(tactic| walk_at "p0") => `(tactic| first
  | with_reducible refine sd_seq ?_ | with_reducible refine sd_ret ?_ | with_reducible refine sd_if ?_ | with_reducible refine sd_asgNil ?_ | with_reducible refine sd_asg ?_ | with_reducible refine sd_next ?_ | with_reducible refine sd_parD ?_ | with_reducible refine sd_par3 ?_
  | ((with_reducible refine' ed_var ?hv ?_); (case hv => rfl)) | with_reducible refine ed_int ?_ | with_reducible refine ed_str ?_ | with_reducible refine ed_bl ?_ | with_reducible refine ed_non ?_ | with_reducible refine ed_raw ?_
  | with_reducible refine ed_op ?_ | with_reducible refine ed_cb ?_ | with_reducible refine ra_cons ?_ | with_reducible refine ra_nil ?_ | with_reducible refine ad_cons ?_ | with_reducible refine ad_nil ?_ | with_reducible refine ed_chain ?_ | with_reducible refine ed_neg ?_ | with_reducible refine ed_fld ?_ | with_reducible refine ed_isN ?_
  | with_reducible refine td_test ?_ | with_reducible refine td_B ?_ | with_reducible refine td_not ?_ | with_reducible refine td_and ?_ | with_reducible refine td_or ?_ | with_reducible refine ed_andV ?_ | with_reducible refine ed_orV ?_ | with_reducible refine ed_notV ?_ | with_reducible refine ed_if ?_
  | with_reducible refine ED.rd ?_ | with_reducible refine gd_name ?_ | with_reducible refine op_none ?_ | with_reducible refine op_some ?_
  | with_reducible refine od_addI ?_ | with_reducible refine od_subI ?_ | with_reducible refine od_lt ?_ | with_reducible refine od_le ?_ | with_reducible refine od_gt ?_ | with_reducible refine od_ge ?_ | with_reducible refine od_eqI ?_ | with_reducible refine od_neI ?_ | with_reducible refine od_eqS ?_ | with_reducible refine od_neS ?_
  | with_reducible refine cd_int ?_ | with_reducible refine cd_abs ?_ | with_reducible refine cd_max2 ?_ | with_reducible refine cd_min2 ?_ | with_reducible refine cd_lenScr ?_ | ((with_reducible refine cd_lenS ?hz ?_); (case hz => first | decide | omega)) | with_reducible refine cd_lenL ?_ | with_reducible refine cd_lenT ?_
  | with_reducible refine ⟨_, rfl, ?_⟩
  | dsimp only [List.set_cons_zero, List.set_cons_succ]
  | refine ⟨fun _ => ?_, fun z => Bool.noConfusion z⟩ | refine ⟨fun z => Bool.noConfusion z, fun _ => ?_⟩)
local macro_rules | `(tactic| walk_at "p1") => `(tactic| first
  | ((with_reducible refine' ed_stk ?hd ?hM ?hJ ?hz ?hj ?_); (case hd => rfl); (case hM => assumption); (case hJ => assumption); (case hz => first | exact (rfl : (0 : Int) = ((0 : Nat) : Int)) | exact (rfl : (1 : Int) = ((1 : Nat) : Int)) | exact (rfl : (2 : Int) = ((2 : Nat) : Int))); (case hj => decide); intro x hx; (try have hx0 := hx.1 rfl); (try have hx1 := hx.2 rfl))
  | walk_at "p0"
  | ((with_reducible refine od_mod ?hc ?_); (case hc => first | decide | omega))
  | ((with_reducible refine od_mulI ?hc ?_); (case hc => first | exact .inl ⟨by decide, by decide⟩ | exact .inr ⟨by decide, by decide⟩ | exact .inl ⟨by omega, by omega⟩ | exact .inr ⟨by omega, by omega⟩))
  | ((with_reducible refine od_div ?hc ?_); (case hc => first | exact wide_div (b := 10) (by decide) (by decide) (by decide) (by decide) | exact wide_div (b := 10) (by omega) (by omega) (by decide) (by decide)))
  | ((with_reducible refine od_pow ?hc ?_); (case hc => exact ⟨by decide, by decide, by decide⟩)))
local macro_rules | `(tactic| walk_at "pr") => `(tactic| repeat walk_at "p1")

structure ScB (b : Str) (a : Sc) : Prop where
  p : Sm a.1
  m : RowB b a.2.1
  l : RowB b a.2.2.1
  t : RowB b a.2.2.2
theorem ScB.ok {b : Str} {a : Sc} (h : ScB b a) (hb : Nm 7 b) : ScOk a := ⟨Sm.wide h.p, h.m.ok hb, h.l.ok hb, h.t.ok hb⟩
section
variable {P : Program} {w : World} {K : PySem.W.Frag} {mg : Str → Option Value} {base : Heap} {C : Addr}
/-! ### _law_near -/
abbrev s__law_near : Stmt := top 33
abbrev N__law_near : List Str := ["_law_pool_here", "_law_scales", "_law_base", "_law_way", "_law_found"]
theorem sc__law_near : FnScope N__law_near ["_law_pool_here", "_law_scales", "_law_base"] (defScope s__law_near) := ⟨rfl, rfl, rfl, by decide +kernel, rfl, by decide +kernel, by decide +kernel⟩
theorem sl__law_near (d0 d1 d2 : Dt) : slots N__law_near.length [d0, d1, d2] = [.dat d0, .dat d1, .dat d2, .un, .un] := rfl
def preNear : Wo → List Dt → Prop := fun W ds => ∃ d a b, ds = [d, scD a, .str b] ∧ PreStk W d ∧ ScB b a ∧ Nm 7 b
def resScOk : List Dt → Dt → Prop := fun _ r => ∃ x, r = scD x ∧ ScOk x
abbrev spNear (K : PySem.W.Frag) : Sp := spW K 3 preNear resScOk
theorem ok_near {f : Addr} {fd : FuncData} (F : Fun K "_law_near" "_law_near" s__law_near f fd) (T : Txt K mg C) (c__law_draw : Cl P w K mg base 1 "_law_draw" (spDraw K)) (c__law_ascending : Cl P w K mg base 1 "_law_ascending" (spAsc K)) (c__law_near_row : Cl P w K mg base 2 "_law_near_row" (spNear1 K)) : FnOk P w K mg base L2.CX0 3 f fd ["_law_pool_here", "_law_scales", "_law_base"] (spNear K) := by
  refine F.ok sc__law_near (fun vs H Q E h => h.1) (fun cdv A outer s H vs Q E hr h => ?_)
  have hu65 := hr.units65
  refine ⟨_, (pss_cons (ps_set (i := 3) sc__law_near.nd rfl (Or.inl rfl) (pe_cl c__law_draw hr (by decide) (by rfl) (pa_cons (pv 0) (pa_cons pe_int pa_nil))))
      (pss_cons (ps_if (pt_cmpR op_lt (pv 3) pe_int (nomark _)) (pss_one (ps_ret (pe_ix (IxR.wk (r := rIx) (K := K) ix_seq rfl) (pe_lst (pa_cons (pe_cl c__law_ascending hr (by decide) (by rfl) (pa_cons (pv 1) pa_nil)) (pa_cons (pe_tup (pa_cons (pe_op (OpR.wk (r := rAddA) (K := K) opAdd rfl) (pe_ix (IxR.wk (r := rIx) (K := K) ix_seq rfl) (pv 1) pe_int (fun _ _ => rfl)) pe_int) (pa_cons (pe_ix (IxR.wk (r := rIx) (K := K) ix_seq rfl) (pv 1) pe_int (fun _ _ => rfl)) (pa_cons (pe_ix (IxR.wk (r := rIx) (K := K) ix_seq rfl) (pv 1) pe_int (fun _ _ => rfl)) (pa_cons (pe_ix (IxR.wk (r := rIx) (K := K) ix_seq rfl) (pv 1) pe_int (fun _ _ => rfl)) pa_nil))))) pa_nil))) (pv 3) (fun _ _ => rfl)))) pss_nil)
      (pss_cons (ps_if (pt_cmpR (OpR.wk (r := rEqA) (K := K) (opEq hr.units) rfl) (pv 3) pe_int (nomark _)) (pss_one (ps_ret (pe_tup (pa_cons (pe_ix (IxR.wk (r := rIx) (K := K) ix_seq rfl) (pv 1) pe_int (fun _ _ => rfl)) (pa_cons (pe_ix (IxR.wk (r := rIx) (K := K) ix_seq rfl) (pv 1) pe_int (fun _ _ => rfl)) (pa_cons (pe_ix (IxR.wk (r := rIx) (K := K) ix_seq rfl) (pv 1) pe_int (fun _ _ => rfl)) (pa_cons (pe_ix (IxR.wk (r := rIx) (K := K) ix_seq rfl) (pv 1) pe_int (fun _ _ => rfl)) pa_nil))))))) pss_nil)
      (pss_cons (ps_set (i := 4) sc__law_near.nd rfl (Or.inl rfl) (pe_callTy (CallR.wk (r := rLstOf) (K := K) callLstOf rfl) (by rfl) T.b_list (by decide +kernel) (pa_cons (pv 1) pa_nil)))
      (pss_cons (ps_asg (pe_cl c__law_near_row hr (by decide) (by rfl) (pa_cons (pv 0) (pa_cons (pe_ix (IxR.wk (r := rIx) (K := K) ix_seq rfl) (pv 1) (pe_op op_sub (pv 3) pe_int) (fun _ _ => rfl)) (pa_cons (pv 2) pa_nil)))) (pg_sub (pv 4) (pe_op op_sub (pv 3) pe_int) set_list))
      (pss_one (ps_ret (pe_callTy (CallR.wk (r := rTupOf) (K := K) callTupOf rfl) (by rfl) T.b_tuple (by decide +kernel) (pa_cons (pv 4) pa_nil))))))))), ?_⟩
  try dsimp only [cxOf, Cx.nox]
  refine body_of (N := N__law_near) (fun Γ ds hK hl hp => ?_) h
  subst hK
  obtain ⟨d, ⟨p, m, l, t⟩, b, rfl, hS, ha, hb⟩ := hp
  rw [sl__law_near]
  have hok := ha.ok hb
  refine sd_seq (sd_asg (ed_draw rfl hS ?_))
  walk_at "pr"
  refine ⟨by decide, by decide, fun k hk => ?_⟩
  refine sd_guard (2 ≤ k) ?_ fun h2 => ?_
  · walk_at "pr"
    refine ⟨fun h1 => ?_, fun h1 => by have := of_decide_eq_false h1; omega⟩
    walk_at "pr"
    refine NL.ed (nl_lst (ad_cons (ed_asc ?_)))
    walk_at "pr"
    refine ⟨hok, ?_⟩
    walk_at "pr"
    refine ed_tup ?_
    walk_at "pr"
    refine od_ixTi (j := 0) rfl rfl ?_
    walk_at "pr"
    refine od_ixTi (j := 1) rfl rfl ?_
    walk_at "pr"
    refine od_ixTi (j := 2) rfl rfl ?_
    walk_at "pr"
    refine od_ixTi (j := 3) rfl rfl ?_
    walk_at "pr"
    refine ⟨by show 4 ≤ 100000; decide, ?_⟩
    walk_at "pr"
    refine ⟨by show 2 ≤ 100000; decide, ?_⟩
    walk_at "pr"
    have hk2 : k < 2 := by
      have := of_decide_eq_true h1
      omega
    match k, hk2 with
    | 0, _ => exact od_ixL rfl ⟨asc4 (p, m, l, t), rfl, hok.asc⟩
    | 1, _ => exact od_ixL rfl ⟨(p + 1, m, l, t), rfl, Sm.succ ha.p, hok.m, hok.l, hok.t⟩
  refine sd_guard (3 ≤ k) ?_ fun h3 => ?_
  · walk_at "pr"
    refine ⟨fun h1 => ?_, fun h1 => by have := of_decide_eq_false h1; omega⟩
    walk_at "pr"
    refine ed_tup ?_
    walk_at "pr"
    refine od_ixTi (j := 0) rfl rfl ?_
    walk_at "pr"
    refine od_ixTi (j := 2) rfl rfl ?_
    walk_at "pr"
    refine od_ixTi (j := 1) rfl rfl ?_
    walk_at "pr"
    refine od_ixTi (j := 3) rfl rfl ?_
    walk_at "pr"
    refine ⟨by show 4 ≤ 100000; decide, (p, l, m, t), rfl, hok.p, hok.l, hok.m, hok.t⟩
  refine sd_seq (sd_asgV (vd_nl (nl_lstOf ?_)))
  walk_at "pr"
  refine .inr ⟨_, rfl, ?_⟩
  have step : ∀ (j : Nat) (x : Row), j + 2 = k → (args4 (p, m, l, t))[j]? = some (rowD x) → RowB b x → (∀ y, RowOk y → ∃ z, Dt.tup ((args4 (p, m, l, t)).set j (rowD y)) = scD z ∧ ScOk z) →
      SD Γ (tSeq (tAsg (tCall (spNear1 Γ.W.K) [] L2.E0 (tCons (tVar 0) (tCons (tOp (rIx Γ.W.K) (tVar 1) (tOp (rI0 fun i j => V.int (i - j)) (tVar 3) (tC (V.int 2)))) (tCons (tVar 2) tNil)))) (gSub (tVar 4) (tOp (rI0 fun i j => V.int (i - j)) (tVar 3) (tC (V.int 2))) rSetL))
        (tRet (tCB (rTupOf Γ.W.K) (tCons (tVar 4) tNil)))) [.dat d, .dat (scD (p, m, l, t)), .dat (.str b), .dat (.int (k : Int)), .mu (args4 (p, m, l, t))] { nx := fun _ => resScOk [d, scD (p, m, l, t), .str b] .non, rt := resScOk [d, scD (p, m, l, t), .str b] } := by
    intro j x hj hx hxB hfin
    have hjl : j < 4 := (List.getElem?_eq_some_iff.mp hx).1
    refine sd_seq (sd_setM (i := 4) rfl (ed_call ?_))
    walk_at "pr"
    refine od_ixTi (j := j) (by omega) hx ?_
    walk_at "pr"
    refine ⟨rfl, ⟨d, x, b, rfl, hS, hxB, hb⟩, ?_⟩
    rintro _ ⟨y, rfl, hy⟩
    walk_at "pr"
    refine ⟨j, by congr 1; omega, hjl, ?_⟩
    refine sd_ret (ed_cb (ra_cons (rd_mut rfl (ra_nil (cd_tupL ?_)))))
    exact hfin y hy
  have hk6 : k < 6 := by omega
  match k, h3, hk6 with
  | 3, _, _ => exact step 1 m rfl rfl ha.m fun y hy => ⟨(p, y, l, t), rfl, hok.p, hy, hok.l, hok.t⟩
  | 4, _, _ => exact step 2 l rfl rfl ha.l fun y hy => ⟨(p, m, y, t), rfl, hok.p, hok.m, hy, hok.t⟩
  | 5, _, _ => exact step 3 t rfl rfl ha.t fun y hy => ⟨(p, m, l, y), rfl, hok.p, hok.m, hok.l, hy⟩
/-! ### _law_shown -/
theorem Sw.log {x : Int} (h : Sw x) : x.natAbs.log2 < 150 := by
  have h2 : x.natAbs < 2 ^ 150 := by
    have := h.1
    have := h.2
    omega
  exact PySem.Flt.log2_lt_of (by decide) h2
theorem shown_int {x : Int} (h : Sw x) : (PyData.shown (.int x)).length ≤ 200 := by
  have := PySem.int_text_length_le (a := x) (k := 150) (by decide) h.log
  show (Str.ofString (toString x)).length ≤ 200
  rw [PySem.ofString_length]
  omega
theorem weight_int {x : Int} (h : Sw x) : (PyData.int x).weight ≤ 150 := by
  rw [PyData.weight]
  have := h.log
  split <;> omega
theorem ints_row : ∀ {r : Row}, (∀ p ∈ r, Nm 8 p.1 ∧ Sw p.2) → PyData.intsShortAll 200 (r.map enc) = true
  | [], _ => rfl
  | p :: r, h => by
    rw [List.map_cons, PyData.intsShortAll, ints_row fun q hq => h q (List.mem_cons_of_mem _ hq), Bool.and_true]
    simp only [enc, PyData.intsShort, PyData.intsShortAll, Bool.and_true, Bool.true_and]
    exact decide_eq_true (shown_int (h p List.mem_cons_self).2)
theorem weight_row : ∀ {r : Row}, (∀ p ∈ r, Nm 8 p.1 ∧ Sw p.2) → PyData.weightAll (r.map enc) ≤ 200 * r.length
  | [], _ => by simp [PyData.weightAll]
  | p :: r, h => by
    have ih := weight_row fun q hq => h q (List.mem_cons_of_mem _ hq)
    obtain ⟨h1, h2⟩ := h p List.mem_cons_self
    have w1 := weight_int h2
    have w2 : p.1.cps.size ≤ 8 := by
      have := h1.len
      rw [len_cps, Array.length_toList] at this
      exact this
    rw [List.map_cons, PyData.weightAll, List.length_cons]
    have e : (enc p).weight = p.1.cps.size + 1 + ((PyData.int p.2).weight + 1 + 0) := by
      simp only [enc, PyData.weight, PyData.weightAll]
    omega
theorem showable_row : ∀ {r : Row}, (∀ p ∈ r, Nm 8 p.1 ∧ Sw p.2) → PyData.showableAll (r.map enc) = true
  | [], _ => rfl
  | p :: r, h => by
    rw [List.map_cons, PyData.showableAll, showable_row fun q hq => h q (List.mem_cons_of_mem _ hq), Bool.and_true]
    simp only [enc, PyData.showable, PyData.showableAll, Bool.and_true, Bool.true_and]
    exact decide_eq_true (Nat.lt_trans (h p List.mem_cons_self).2.log (by decide))
theorem nodict_row : ∀ r : Row, PyData.hasDictAll (r.map enc) = false
  | [] => rfl
  | p :: r => by
    rw [List.map_cons, PyData.hasDictAll, nodict_row r, Bool.or_false]
    simp [enc, PyData.hasDict, PyData.hasDictAll]
/-- what is shown -/
def told (a : Sc) : PyData := .list [.int a.1, rowP a.2.1, rowP a.2.2.1, rowP a.2.2.2, .bool true]
def toldD (a : Sc) : Dt := .lst [.int a.1, rowD a.2.1, rowD a.2.2.1, rowD a.2.2.2, .bl true]
theorem told_py (a : Sc) : toPy (toldD a) = some (told a) := by
  simp only [toldD, told, toPy, toPys, toPy_row, Option.map_some]
theorem cd_told {W : Wo} {Pq : Dt → Prop} {a : Sc} (h : ScOk a) (p : Pq (.str (told a).shown)) : CD W (Pg.rRepr W.K) [toldD a] Pq := by
  obtain ⟨hp, hm, hl, ht⟩ := h
  refine cd_repr (told_py a) ?_ ?_ ?_ ?_ p
  · simp only [told, rowP, PyData.showable, PyData.showableAll, showable_row hm.el, showable_row hl.el, showable_row ht.el, Bool.and_true]
    exact decide_eq_true (Nat.lt_trans hp.log (by decide))
  · simp only [told, rowP, PyData.hasDict, PyData.hasDictAll, nodict_row, Bool.or_false]
  · have d1 := depth_row a.2.1
    have d2 := depth_row a.2.2.1
    have d3 := depth_row a.2.2.2
    simp only [told, rowP, PyData.depth, PyData.depthAll]
    omega
  · refine shown_bound ?_ ?_ ?_
    · simp only [told, rowP, PyData.canLay0, PyData.canLayAll0, canLay_row hm.el, canLay_row hl.el, canLay_row ht.el, Bool.and_true]
    · simp only [told, rowP, PyData.intsShort, PyData.intsShortAll, ints_row hm.el, ints_row hl.el, ints_row ht.el, Bool.and_true]
      exact decide_eq_true (shown_int hp)
    · have w0 := weight_int hp
      have w1 := weight_row hm.el
      have w2 := weight_row hl.el
      have w3 := weight_row ht.el
      have l1 := hm.len
      have l2 := hl.len
      have l3 := ht.len
      rw [told, PyData.weight]
      simp only [PyData.weightAll]
      have e1 : (rowP a.2.1).weight = PyData.weightAll (a.2.1.map enc) := by rw [rowP, PyData.weight]
      have e2 : (rowP a.2.2.1).weight = PyData.weightAll (a.2.2.1.map enc) := by rw [rowP, PyData.weight]
      have e3 : (rowP a.2.2.2).weight = PyData.weightAll (a.2.2.2.map enc) := by rw [rowP, PyData.weight]
      have e4 : (PyData.bool true).weight = 0 := by rw [PyData.weight]
      rw [e1, e2, e3, e4]
      omega
abbrev s__law_shown : Stmt := top 34
abbrev N__law_shown : List Str := ["_law_mine", "_law_scales", "_law_due"]
theorem sc__law_shown : FnScope N__law_shown ["_law_mine", "_law_scales"] (defScope s__law_shown) := ⟨rfl, rfl, rfl, by decide +kernel, rfl, by decide +kernel, by decide +kernel⟩
theorem sl__law_shown (d0 d1 : Dt) : slots N__law_shown.length [d0, d1] = [.dat d0, .dat d1, .un] := rfl
def preShown (C : Addr) : Wo → List Dt → Prop := fun _ ds => ∃ a, ds = [.obj C (fW (asc4 a)), scD a] ∧ ScOk a
def resTrue : List Dt → Dt → Prop := fun _ r => r = .bl true
abbrev spShown (K : PySem.W.Frag) (C : Addr) : Sp := spW K 2 (preShown C) resTrue
theorem ok_shown {f : Addr} {fd : FuncData} (F : Fun K "_law_shown" "_law_shown" s__law_shown f fd) (T : Txt K mg C) (c__law_ascending : Cl P w K mg base 1 "_law_ascending" (spAsc K)) : Pg.FnG P w K mg base 2 f fd ["_law_mine", "_law_scales"] (spShown K C) := by
  refine Pg.fnG_of F sc__law_shown (fun vs H Q E h => h.1) (fun cdv A outer s H vs Q E hr hgd h => ?_)
  have hu65 := hr.units65
  refine ⟨_, (pss_cons (ps_set (i := 2) sc__law_shown.nd rfl (Or.inl rfl) (pe_cl c__law_ascending hr (by decide) (by rfl) (pa_cons (pv 1) pa_nil)))
      (pss_one (ps_ret (pe_cmpR (OpR.wk (r := rEqA) (K := K) (opEq hr.units) rfl) (pe_callB (CallR.wk (r := Pg.rRepr) (K := K) (Pg.call_repr hgd hr.units) rfl) (by rfl) T.b_repr (by decide +kernel) (pa_cons (pe_lst (pa_cons (pe_fldK (K := K) rfl (pv 0) rfl) (pa_cons (pe_fldK (K := K) rfl (pv 0) rfl) (pa_cons (pe_fldK (K := K) rfl (pv 0) rfl) (pa_cons (pe_fldK (K := K) rfl (pv 0) rfl) (pa_cons (pe_callTy (callBoolO T.nb_Weights T.nl_Weights) (by rfl) T.b_bool (by decide +kernel) (pa_cons (pv 0) pa_nil)) pa_nil)))))) pa_nil)) (pe_callB (CallR.wk (r := Pg.rRepr) (K := K) (Pg.call_repr hgd hr.units) rfl) (by rfl) T.b_repr (by decide +kernel) (pa_cons (pe_op (OpR.wk (r := rAddA) (K := K) opAdd rfl) (pe_callTy (CallR.wk (r := rLstOf) (K := K) callLstOf rfl) (by rfl) T.b_list (by decide +kernel) (pa_cons (pv 2) pa_nil)) (pe_lst (pa_cons pe_bl pa_nil))) pa_nil)) (nomark _))))), ?_⟩
  try dsimp only [cxOf, Cx.nox]
  refine body_of (N := N__law_shown) (fun Γ ds hK hl hp => ?_) h
  subst hK
  obtain ⟨⟨p, m, l, t⟩, rfl, ha⟩ := hp
  rw [sl__law_shown]
  have hcl := T.e_Weights.kd.cl
  walk_at "pr"
  refine ed_asc ?_
  walk_at "pr"
  refine ⟨ha, ?_⟩
  walk_at "pr"
  refine NL.ed (nl_lst ?_)
  walk_at "pr"
  refine ⟨_, _, _, rfl, hcl, T.n_page, rfl, ?_⟩
  walk_at "pr"
  refine ⟨_, _, _, rfl, hcl, T.n_marks, rfl, ?_⟩
  walk_at "pr"
  refine ⟨_, _, _, rfl, hcl, T.n_links, rfl, ?_⟩
  walk_at "pr"
  refine ⟨_, _, _, rfl, hcl, T.n_templates, rfl, ?_⟩
  walk_at "pr"
  refine cd_boolO ?_
  walk_at "pr"
  refine ⟨by show 5 ≤ 100000; decide, ?_⟩
  walk_at "pr"
  refine cd_told (a := asc4 (p, m, l, t)) ha.asc ?_
  walk_at "pr"
  refine cd_lstT ?_
  refine ED.rd (NL.ed (nl_lst ?_))
  walk_at "pr"
  refine ⟨by show 1 ≤ 100000; decide, ?_⟩
  refine od_addL (by show 5 ≤ 100000; decide) ?_
  walk_at "pr"
  refine cd_told (a := asc4 (p, m, l, t)) ha.asc ?_
  refine od_eqS ?_
  exact congrArg Dt.bl (decide_eq_true rfl)
theorem ed_shown {Γ : Cn} {δ : List Sl} {Pq : Dt → Prop} {t1 t2 : TE} {C : Addr} (h : ED Γ t1 δ fun x => ED Γ t2 δ fun y => ∃ a, x = .obj C (fW (asc4 a)) ∧ y = scD a ∧ ScOk a ∧ Pq (.bl true)) : ED Γ (tCall (spShown Γ.W.K C) [] L2.E0 (tCons t1 (tCons t2 tNil))) δ Pq :=
  ed_call (ad_cons (h.imp fun x h2 => ad_cons (h2.imp fun y ⟨a, e1, e2, ha, p⟩ => ad_nil ⟨rfl, ⟨a, by rw [e1, e2], ha⟩, fun r hr => by rw [show r = .bl true from hr]; exact p⟩)))
end
end Pd.K31

set_option Elab.async false
set_option linter.all false
set_option maxRecDepth 100000
set_option maxHeartbeats 8000000
namespace Pd.K31
open PySem PySem.Spec PyProof.Rows L2 Pd
local macro_rules | `(tactic| walk_at "p0") => `(tactic| first
  | with_reducible refine sd_seq ?_ | with_reducible refine sd_ret ?_ | with_reducible refine sd_if ?_ | with_reducible refine sd_asgNil ?_ | with_reducible refine sd_asg ?_ | with_reducible refine sd_next ?_ | with_reducible refine sd_parD ?_ | with_reducible refine sd_par3 ?_
  | ((with_reducible refine' ed_var ?hv ?_); (case hv => rfl)) | with_reducible refine ed_int ?_ | with_reducible refine ed_str ?_ | with_reducible refine ed_bl ?_ | with_reducible refine ed_non ?_ | with_reducible refine ed_raw ?_
  | with_reducible refine ed_op ?_ | with_reducible refine ed_cb ?_ | with_reducible refine ra_cons ?_ | with_reducible refine ra_nil ?_ | with_reducible refine ad_cons ?_ | with_reducible refine ad_nil ?_ | with_reducible refine ed_chain ?_ | with_reducible refine ed_neg ?_ | with_reducible refine ed_fld ?_ | with_reducible refine ed_isN ?_
  | with_reducible refine td_test ?_ | with_reducible refine td_B ?_ | with_reducible refine td_not ?_ | with_reducible refine td_and ?_ | with_reducible refine td_or ?_ | with_reducible refine ed_andV ?_ | with_reducible refine ed_orV ?_ | with_reducible refine ed_notV ?_ | with_reducible refine ed_if ?_
  | with_reducible refine ED.rd ?_ | with_reducible refine gd_name ?_ | with_reducible refine op_none ?_ | with_reducible refine op_some ?_
  | with_reducible refine od_addI ?_ | with_reducible refine od_subI ?_ | with_reducible refine od_lt ?_ | with_reducible refine od_le ?_ | with_reducible refine od_gt ?_ | with_reducible refine od_ge ?_ | with_reducible refine od_eqI ?_ | with_reducible refine od_neI ?_ | with_reducible refine od_eqS ?_ | with_reducible refine od_neS ?_
  | with_reducible refine cd_int ?_ | with_reducible refine cd_abs ?_ | with_reducible refine cd_max2 ?_ | with_reducible refine cd_min2 ?_ | with_reducible refine cd_lenScr ?_ | ((with_reducible refine cd_lenS ?hz ?_); (case hz => first | decide | omega)) | with_reducible refine cd_lenL ?_ | with_reducible refine cd_lenT ?_
  | with_reducible refine ⟨_, rfl, ?_⟩
  | dsimp only [List.set_cons_zero, List.set_cons_succ]
  | refine ⟨fun _ => ?_, fun z => Bool.noConfusion z⟩ | refine ⟨fun z => Bool.noConfusion z, fun _ => ?_⟩)
local macro_rules | `(tactic| walk_at "p1") => `(tactic| first
  | ((with_reducible refine' ed_stk ?hd ?hM ?hJ ?hz ?hj ?_); (case hd => rfl); (case hM => assumption); (case hJ => assumption); (case hz => first | exact (rfl : (0 : Int) = ((0 : Nat) : Int)) | exact (rfl : (1 : Int) = ((1 : Nat) : Int)) | exact (rfl : (2 : Int) = ((2 : Nat) : Int))); (case hj => decide); intro x hx; (try have hx0 := hx.1 rfl); (try have hx1 := hx.2 rfl))
  | walk_at "p0"
  | ((with_reducible refine od_mod ?hc ?_); (case hc => first | decide | omega))
  | ((with_reducible refine od_mulI ?hc ?_); (case hc => first | exact .inl ⟨by decide, by decide⟩ | exact .inr ⟨by decide, by decide⟩ | exact .inl ⟨by omega, by omega⟩ | exact .inr ⟨by omega, by omega⟩))
  | ((with_reducible refine od_div ?hc ?_); (case hc => first | exact wide_div (b := 10) (by decide) (by decide) (by decide) (by decide) | exact wide_div (b := 10) (by omega) (by omega) (by decide) (by decide)))
  | ((with_reducible refine od_pow ?hc ?_); (case hc => exact ⟨by decide, by decide, by decide⟩)))
local macro_rules | `(tactic| walk_at "pr") => `(tactic| repeat walk_at "p1")

theorem asc4_opp (a : Sc) : asc4 (opp4 (asc4 a)) = asc4 (opp4 a) := by
  unfold asc4 opp4
  simp only [asc_opp]
theorem opp4_opp (a : Sc) : opp4 (opp4 a) = a := by
  obtain ⟨p, m, l, t⟩ := a
  unfold opp4
  simp only [opp_opp, Int.neg_neg]
theorem neg2 (a : Sc) : asc4 (opp4 (asc4 (opp4 (asc4 a)))) = asc4 a := by rw [asc4_opp (a := a), asc4_opp, opp4_opp]
def scP (a : Sc) : PyData := .tuple [.int a.1, rowP a.2.1, rowP a.2.2.1, rowP a.2.2.2]
theorem scP_py (a : Sc) : toPy (scD a) = some (scP a) := by
  simp only [scD, args4, scP, toPy, toPys, toPy_row, Option.map_some]
theorem eqv_sc (a b : Sc) : PyData.eqv (scP a) (scP b) = decide (a = b) := by
  obtain ⟨p, m, l, t⟩ := a
  obtain ⟨p', m', l', t'⟩ := b
  simp only [scP, PyData.eqv, PyData.eqvAll, Bool.and_true]
  have e1 := eqv_row m m'
  have e2 := eqv_row l l'
  have e3 := eqv_row t t'
  rw [e1, e2, e3]
  by_cases h1 : p = p' <;> by_cases h2 : m = m' <;> by_cases h3 : l = l' <;> by_cases h4 : t = t' <;> simp [h1, h2, h3, h4]
theorem shaped_sc {a : Sc} (h : ScOk a) : SeqAt.shaped (scP a) = true := by
  unfold SeqAt.shaped
  have d1 := depth_row a.2.1
  have d2 := depth_row a.2.2.1
  have d3 := depth_row a.2.2.2
  simp only [scP, rowP, PyData.canLay0, PyData.canLayAll0, canLay_row h.m.el, canLay_row h.l.el, canLay_row h.t.el, Bool.and_true, Bool.true_and, PyData.depth, PyData.depthAll]
  exact decide_eq_true (by omega)
theorem dec_comm {α : Type} [DecidableEq α] (a b : α) : decide (a = b) = decide (b = a) := by
  by_cases h : a = b
  · rw [decide_eq_true h, decide_eq_true h.symm]
  · rw [decide_eq_false h, decide_eq_false fun z => h z.symm]
theorem rowOk_nil : RowOk [] := ⟨by decide, by simp, fun p hp => by simp at hp⟩
/-- an empty tuple of the text -/
def EmptyT (K : PySem.W.Frag) (T : Addr) : Prop := ∀ H : Hp, SqT K H T []
theorem EmptyT.dr {K : PySem.W.Frag} {T : Addr} (h : EmptyT K T) (G : Hp) : Dr K G (.ref T) (rowD []) := .tup (h G) .nil
abbrev gTL (T1 : Addr) : List V → List V → List V := fun vs zs => vs ++ ([.int 0, .ref T1] ++ zs.reverse)
abbrev gM (T2 T3 : Addr) : List V → List V → List V := fun vs zs => vs ++ ([.int 0] ++ zs ++ [.ref T2, .ref T3])
abbrev g00 (T1 T2 T3 : Addr) : List V → List V → List V := fun vs zs => vs ++ ([.int 0, .ref T1, .ref T2, .ref T3] ++ zs)
section
variable {Γ : Cn} {δ : List Sl} {Pq : Dt → Prop} {tk : TA} {C T1 T2 T3 : Addr}
theorem ed_mkTL (h1 : EmptyT Γ.W.K T1) (h : AD Γ tk δ fun ds => ∃ l t, ds = [rowD t, rowD l] ∧ ScOk (0, [], l, t) ∧ Pq (.obj C (fW (asc4 (0, [], l, t))))) : ED Γ (tMakeK C 0 2 (spInitW Γ.W.K C) (gTL T1) L2.E0 tNil tk) δ Pq := by
  refine ed_makeK (gD := fun ds es => ds ++ ([.int 0, rowD []] ++ es.reverse)) (fun x vs zs => ⟨vs ++ ([.int 0, .ref T1] ++ zs.reverse), rfl, fun G ds es k1 k2 => k1.append (.cons (.int 0) (.cons (h1.dr G) k2.reverse))⟩) (ad_nil ?_)
  intro G H σ Q at_ k
  refine h G H σ Q at_ fun vs ds G' H' f g r ⟨l, t, e, ha, p⟩ => k vs ds G' H' f g r ?_
  subst e
  exact ⟨rfl, rfl, rfl, ⟨(0, [], l, t), rfl, ha⟩, fun fds hf => by rw [hf (0, [], l, t) rfl]; exact p⟩
theorem ed_mkM (h2 : EmptyT Γ.W.K T2) (h3 : EmptyT Γ.W.K T3) (h : AD Γ tk δ fun ds => ∃ m, ds = [rowD m] ∧ ScOk (0, m, [], []) ∧ Pq (.obj C (fW (asc4 (0, m, [], []))))) : ED Γ (tMakeK C 0 1 (spInitW Γ.W.K C) (gM T2 T3) L2.E0 tNil tk) δ Pq := by
  refine ed_makeK (gD := fun ds es => ds ++ ([.int 0] ++ es ++ [rowD [], rowD []])) (fun x vs zs => ⟨vs ++ ([.int 0] ++ zs ++ [.ref T2, .ref T3]), rfl, fun G ds es k1 k2 => k1.append ((DrAll.append (.cons (.int 0) .nil) k2).append (.cons (h2.dr G) (.cons (h3.dr G) .nil)))⟩) (ad_nil ?_)
  intro G H σ Q at_ k
  refine h G H σ Q at_ fun vs ds G' H' f g r ⟨m, e, ha, p⟩ => k vs ds G' H' f g r ?_
  subst e
  exact ⟨rfl, rfl, rfl, ⟨(0, m, [], []), rfl, ha⟩, fun fds hf => by rw [hf (0, m, [], []) rfl]; exact p⟩
theorem ed_mk00 (h1 : EmptyT Γ.W.K T1) (h2 : EmptyT Γ.W.K T2) (h3 : EmptyT Γ.W.K T3) (h : Pq (.obj C (fW (asc4 (0, [], [], []))))) : ED Γ (tMakeK C 0 0 (spInitW Γ.W.K C) (g00 T1 T2 T3) L2.E0 tNil tNil) δ Pq := by
  refine ed_makeK (gD := fun ds es => ds ++ ([.int 0, rowD [], rowD [], rowD []] ++ es)) (fun x vs zs => ⟨vs ++ ([.int 0, .ref T1, .ref T2, .ref T3] ++ zs), rfl, fun G ds es k1 k2 => k1.append (.cons (.int 0) (.cons (h1.dr G) (.cons (h2.dr G) (.cons (h3.dr G) k2))))⟩) (ad_nil (ad_nil ?_))
  exact ⟨rfl, rfl, rfl, ⟨(0, [], [], []), rfl, Sw.zero, rowOk_nil, rowOk_nil, rowOk_nil⟩, fun fds hf => by rw [hf (0, [], [], []) rfl]; exact h⟩
theorem ed_wts {te : TE} (h : ED Γ te δ fun d => ∃ a, d = scD a ∧ ScOk a ∧ Pq (.obj C (fW (asc4 a)))) : ED Γ (tCall (spWts Γ.W.K C) [] L2.E0 (tCons te tNil)) δ Pq :=
  ed_call (ad_cons (h.imp fun d ⟨r, e, hr, p⟩ => ad_nil ⟨rfl, ⟨r, by rw [e], hr⟩, fun x hx => by rw [hx r (by rw [e])]; exact p⟩))
theorem ed_neg1 {te : TE} (h : ED Γ te δ fun d => ∃ a, d = .obj C (fW a) ∧ ScOk a ∧ Pq (.obj C (fW (asc4 (opp4 a))))) : ED Γ (tUn (rNegO C (spNeg Γ.W.K C)) te) δ Pq :=
  ed_negO (h.imp fun d ⟨a, e, ha, p⟩ => ⟨fW a, e, ⟨a, rfl, ha⟩, fun r hr => by rw [hr C a rfl]; exact p⟩)
theorem od_eqW {W : Wo} {a b : Sc} (ha : ScOk a) (hb : ScOk b) (p : Pq (.bl (decide (a = b)))) : OD W (rEqC W.K C (spEqW W.K C)) (.obj C (fW a)) (.obj C (fW b)) Pq :=
  od_eqCO ⟨a, _, rfl, ha, .inl ⟨b, rfl, hb⟩⟩ fun r hr => by rw [hr.1 a b rfl]; exact ⟨⟨_, rfl⟩, p⟩
theorem od_neW {W : Wo} {a b : Sc} (ha : ScOk a) (hb : ScOk b) (p : Pq (.bl (!decide (a = b)))) : OD W (rNeC W.K C (spEqW W.K C)) (.obj C (fW a)) (.obj C (fW b)) Pq :=
  od_neCO ⟨a, _, rfl, ha, .inl ⟨b, rfl, hb⟩⟩ fun r hr => ⟨_, hr.1 a b rfl, p⟩
theorem od_eqWB {W : Wo} {a : Sc} {y : Dt} {T : String} (ha : ScOk a) (hy : tyD y = some T) (hT : T ≠ "list") (p : Pq (.bl false)) : OD W (rEqC W.K C (spEqW W.K C)) (.obj C (fW a)) y Pq :=
  od_eqCB hy hT ⟨a, y, rfl, ha, .inr ⟨T, hy⟩⟩ fun r hr => by rw [hr.2 a y T rfl hy]; exact ⟨⟨_, rfl⟩, p⟩
theorem od_eqWR {W : Wo} {a : Sc} {y : Dt} {T : String} (ha : ScOk a) (hy : tyD y = some T) (hk : y = .non ∨ (∃ i, y = .int i) ∨ (∃ b, y = .bl b) ∨ (∃ z, y = .str z) ∨ ∃ ds, y = .tup ds) (p : Pq (.bl false)) : OD W (rEqC W.K C (spEqW W.K C)) y (.obj C (fW a)) Pq :=
  od_eqCR hk ⟨a, y, rfl, ha, .inr ⟨T, hy⟩⟩ fun r hr => by rw [hr.2 a y T rfl hy]; exact ⟨⟨_, rfl⟩, p⟩
theorem od_eqSc {W : Wo} {a b : Sc} (ha : ScOk a) (hb : ScOk b) (p : Pq (.bl (decide (a = b)))) : OD W (rEqA W.K) (scD a) (scD b) Pq :=
  od_eq (scP_py a) (scP_py b) (shaped_sc ha) (shaped_sc hb) (by rw [eqv_sc]; exact p)
end
section
variable {P : Program} {w : World} {K : PySem.W.Frag} {mg : Str → Option Value} {base : Heap} {C T1 T2 T3 : Addr}
abbrev s__law_right : Stmt := top 36
abbrev N__law_right : List Str := ["_law_pool_here", "_law_base", "_law_rows_here", "_law_scales", "_law_near_here", "_law_one", "_law_two", "_law_alike", "_law_others", "_law_turn", "_law_thing"]
theorem sc__law_right : FnScope N__law_right ["_law_pool_here"] (defScope s__law_right) := ⟨rfl, rfl, rfl, by decide +kernel, rfl, by decide +kernel, by decide +kernel⟩
theorem sl__law_right (d0 : Dt) : slots N__law_right.length [d0] = [.dat d0, .un, .un, .un, .un, .un, .un, .un, .un, .un, .un] := rfl
abbrev spRight (K : PySem.W.Frag) : Sp := spW K 1 preStk1 resTrue
theorem ok_right {f : Addr} {fd : FuncData} (F : Fun K "_law_right" "_law_right" s__law_right f fd) (T : Txt K mg C) (h1 : EmptyT K T1) (h2 : EmptyT K T2) (h3 : EmptyT K T3) (c__law_name : Cl P w K mg base 2 "_law_name" (spLName K)) (c__law_row : Cl P w K mg base 3 "_law_row" (spLRow K)) (c__law_integer : Cl P w K mg base 2 "_law_integer" (spInt K)) (c__law_near : Cl P w K mg base 3 "_law_near" (spNear K))
    (c__law_weights : Cl P w K mg base 5 "_law_weights" (spWts K C)) (c__law_shown : ClG P w K mg base 2 "_law_shown" (spShown K C)) (c__law_opposite : Cl P w K mg base 1 "_law_opposite" (spOpp4 K)) (c__law_ascending : Cl P w K mg base 1 "_law_ascending" (spAsc K))
    (c_Weights___neg__ : ClM P w K mg base 5 C "__neg__" (spNeg K C)) (c_Weights___eq__ : ClM P w K mg base 1 C "__eq__" (spEqW K C))
    (i_Weights_0_templates_links : ClIK P w K mg base 3 C "Weights" 0 ["templates", "links"] (gTL T1) (spInitW K C)) (i_Weights_0_marks : ClIK P w K mg base 3 C "Weights" 0 ["marks"] (gM T2 T3) (spInitW K C)) (i_Weights_0 : ClIK P w K mg base 3 C "Weights" 0 [] (g00 T1 T2 T3) (spInitW K C)) : Pg.FnG P w K mg base 6 f fd ["_law_pool_here"] (spRight K) := by
  refine Pg.fnG_of F sc__law_right (fun vs H Q E h => h.1) (fun cdv A outer s H vs Q E hr hgd h => ?_)
  have hu65 := hr.units65
  refine ⟨_, (pss_cons (ps_set (i := 1) sc__law_right.nd rfl (Or.inr rfl) (pe_cl c__law_name hr (by decide) (by rfl) (pa_cons (pv 0) (pa_cons pe_int (pa_cons pe_int pa_nil)))))
      (pss_cons (ps_setLc (i := 2) (own := [("_law_turn", 9)]) (by rfl) sc__law_right.nd rfl rfl (sw_true rfl rfl rfl (by decide +kernel)) (pi_range1 (by rfl) T.b_range (pa_cons pe_int pa_nil)) (blkOk_by (own := [("_law_turn", 9)]) (N := N__law_right) (sc := defScope s__law_right) (by decide +kernel)) (fun _ _ _ _ _ => (pg_name (i := 9) sc__law_right.nd rfl (Or.inl rfl))) (fun _ _ _ _ _ => pts_nil) (fun _ _ _ _ _ => (pe_cl c__law_row hr (by decide) (by rfl) (pa_cons (pv 0) (pa_cons (pv 1) pa_nil)))))
      (pss_cons (ps_set (i := 3) sc__law_right.nd rfl (Or.inl rfl) (pe_tup (pa_cons (pe_cl c__law_integer hr (by decide) (by rfl) (pa_cons (pv 0) pa_nil)) (pa_cons (pe_ix (IxR.wk (r := rIx) (K := K) ix_seq rfl) (pv 2) pe_int (fun _ _ => rfl)) (pa_cons (pe_ix (IxR.wk (r := rIx) (K := K) ix_seq rfl) (pv 2) pe_int (fun _ _ => rfl)) (pa_cons (pe_ix (IxR.wk (r := rIx) (K := K) ix_seq rfl) (pv 2) pe_int (fun _ _ => rfl)) pa_nil))))))
      (pss_cons (ps_set (i := 4) sc__law_right.nd rfl (Or.inl rfl) (pe_cl c__law_near hr (by decide) (by rfl) (pa_cons (pv 0) (pa_cons (pv 3) (pa_cons (pv 1) pa_nil)))))
      (pss_cons (ps_asg (pe_tup (pa_cons (pe_cl c__law_weights hr (by decide) (by rfl) (pa_cons (pv 3) pa_nil)) (pa_cons (pe_cl c__law_weights hr (by decide) (by rfl) (pa_cons (pv 4) pa_nil)) pa_nil))) (pg_tupK (K := K) (n := 2) rfl (pgs_cons (pg_name (i := 5) sc__law_right.nd rfl (Or.inr rfl)) (pgs_cons (pg_name (i := 6) sc__law_right.nd rfl (Or.inl rfl)) pgs_nil)) rfl))
      (pss_cons (ps_if (PW.pt (pw_or (pt_not (pt_val (pe_clG c__law_shown hgd hr (by decide) (by rfl) (pa_cons (pv 5) (pa_cons (pv 3) pa_nil))))) (pw_or (pt_not (pt_val (pe_clG c__law_shown hgd hr (by decide) (by rfl) (pa_cons (pv 6) (pa_cons (pv 4) pa_nil))))) (pw_or1 (pt_not (pt_val (pe_clG c__law_shown hgd hr (by decide) (by rfl) (pa_cons (pe_un (un_negO c_Weights___neg__ hr (by decide)) (pv 5)) (pa_cons (pe_cl c__law_opposite hr (by decide) (by rfl) (pa_cons (pv 3) pa_nil)) pa_nil))))))))) (pss_one (ps_ret pe_bl)) pss_nil)
      (pss_cons (ps_if (PW.pt (pw_or (pt_not (pt_val (pe_clG c__law_shown hgd hr (by decide) (by rfl) (pa_cons (pe_un (un_negO c_Weights___neg__ hr (by decide)) (pe_un (un_negO c_Weights___neg__ hr (by decide)) (pv 5))) (pa_cons (pv 3) pa_nil))))) (pw_or (pt_not (pt_val (pe_clG c__law_shown hgd hr (by decide) (by rfl) (pa_cons (pv 5) (pa_cons (pv 3) pa_nil))))) (pw_or1 (pt_not (pt_cmpR (opEqC (K := K) rfl T.e_Weights c_Weights___eq__ hr (by decide)) (pe_un (un_negO c_Weights___neg__ hr (by decide)) (pe_un (un_negO c_Weights___neg__ hr (by decide)) (pv 5))) (pv 5) (nomark _))))))) (pss_one (ps_ret pe_bl)) pss_nil)
      (pss_cons (ps_if (pt_not (pt_val (pe_clG c__law_shown hgd hr (by decide) (by rfl) (pa_cons (pe_mkK0 i_Weights_0_templates_links hr (by decide) (by rfl) (pk_cons (pe_ix (IxR.wk (r := rIx) (K := K) ix_seq rfl) (pv 3) pe_int (fun _ _ => rfl)) (pk_cons (pe_ix (IxR.wk (r := rIx) (K := K) ix_seq rfl) (pv 3) pe_int (fun _ _ => rfl)) pk_nil))) (pa_cons (pe_tup (pa_cons pe_int (pa_cons (pe_tup pa_nil) (pa_cons (pe_ix (IxR.wk (r := rIx) (K := K) ix_seq rfl) (pv 3) pe_int (fun _ _ => rfl)) (pa_cons (pe_ix (IxR.wk (r := rIx) (K := K) ix_seq rfl) (pv 3) pe_int (fun _ _ => rfl)) pa_nil))))) pa_nil))))) (pss_one (ps_ret pe_bl)) pss_nil)
      (pss_cons (ps_if (pt_not (pt_val (pe_clG c__law_shown hgd hr (by decide) (by rfl) (pa_cons (pe_mkK0 i_Weights_0_marks hr (by decide) (by rfl) (pk_cons (pe_ix (IxR.wk (r := rIx) (K := K) ix_seq rfl) (pv 3) pe_int (fun _ _ => rfl)) pk_nil)) (pa_cons (pe_tup (pa_cons pe_int (pa_cons (pe_ix (IxR.wk (r := rIx) (K := K) ix_seq rfl) (pv 3) pe_int (fun _ _ => rfl)) (pa_cons (pe_tup pa_nil) (pa_cons (pe_tup pa_nil) pa_nil))))) pa_nil))))) (pss_one (ps_ret pe_bl)) pss_nil)
      (pss_cons (ps_if (pt_not (pt_val (pe_clG c__law_shown hgd hr (by decide) (by rfl) (pa_cons (pe_mkK0 i_Weights_0 hr (by decide) (by rfl) pk_nil) (pa_cons (pe_tup (pa_cons pe_int (pa_cons (pe_tup pa_nil) (pa_cons (pe_tup pa_nil) (pa_cons (pe_tup pa_nil) pa_nil))))) pa_nil))))) (pss_one (ps_ret pe_bl)) pss_nil)
      (pss_cons (ps_set (i := 7) sc__law_right.nd rfl (Or.inl rfl) (pe_cmpR (OpR.wk (r := rEqA) (K := K) (opEq hr.units) rfl) (pe_cl c__law_ascending hr (by decide) (by rfl) (pa_cons (pv 3) pa_nil)) (pe_cl c__law_ascending hr (by decide) (by rfl) (pa_cons (pv 4) pa_nil)) (nomark _)))
      (pss_cons (ps_if (pt_cmpR (OpR.wk (r := rNeA) (K := K) (opNe hr.units) rfl) (pe_lst (pa_cons (pe_cmpR (opEqC (K := K) rfl T.e_Weights c_Weights___eq__ hr (by decide)) (pv 5) (pv 6) (nomark _)) (pa_cons (pe_cmpR (opEqC (K := K) rfl T.e_Weights c_Weights___eq__ hr (by decide)) (pv 6) (pv 5) (nomark _)) (pa_cons (pe_cmpR (opNeC (K := K) rfl T.e_Weights c_Weights___eq__ hr (by decide)) (pv 5) (pv 6) (nomark _)) pa_nil)))) (pe_lst (pa_cons (pv 7) (pa_cons (pv 7) (pa_cons (pe_not (pv 7)) pa_nil)))) (nomark _)) (pss_one (ps_ret pe_bl)) pss_nil)
      (pss_cons (ps_if (pt_cmpR (OpR.wk (r := rNeA) (K := K) (opNe hr.units) rfl) (pe_cmpR (opEqC (K := K) rfl T.e_Weights c_Weights___eq__ hr (by decide)) (pe_un (un_negO c_Weights___neg__ hr (by decide)) (pv 5)) (pv 5) (nomark _)) (pe_cmpR (OpR.wk (r := rEqA) (K := K) (opEq hr.units) rfl) (pe_cl c__law_ascending hr (by decide) (by rfl) (pa_cons (pv 3) pa_nil)) (pe_cl c__law_ascending hr (by decide) (by rfl) (pa_cons (pe_cl c__law_opposite hr (by decide) (by rfl) (pa_cons (pv 3) pa_nil)) pa_nil)) (nomark _)) (nomark _)) (pss_one (ps_ret pe_bl)) pss_nil)
      (pss_cons (ps_set (i := 8) sc__law_right.nd rfl (Or.inl rfl) (pe_lst (pa_cons (pv 3) (pa_cons (pe_cl c__law_ascending hr (by decide) (by rfl) (pa_cons (pv 3) pa_nil)) (pa_cons pe_non (pa_cons pe_int (pa_cons (pe_tup pa_nil) (pa_cons pe_bl pa_nil))))))))
      (pss_one (ps_ret (pe_not (pe_callB (CallR.wk (r := rAny) (K := K) (cr_any rfl) rfl) (by rfl) T.b_any (by decide +kernel) (pa_cons (pe_lc (own := [("_law_thing", 10)]) (by rfl) sc__law_right.nd (pi_listK (K := K) (pv 8) rfl) (blkOk_by (own := [("_law_thing", 10)]) (N := N__law_right) (sc := defScope s__law_right) (by decide +kernel)) (fun _ _ _ _ _ => (pg_name (i := 10) sc__law_right.nd rfl (Or.inl rfl))) (fun _ _ _ _ _ => pts_nil) (fun _ _ _ _ _ => (pe_or (pe_cmpR (opEqC (K := K) rfl T.e_Weights c_Weights___eq__ hr (by decide)) (pv 5) (pv 10) (nomark _)) (pe_one (pe_cmpR (opEqC (K := K) rfl T.e_Weights c_Weights___eq__ hr (by decide)) (pv 10) (pv 5) (nomark _)))))) pa_nil))))))))))))))))))), ?_⟩
  try dsimp only [cxOf, Cx.nox]
  refine body_of (N := N__law_right) (fun Γ ds hK hl hp => ?_) h
  subst hK
  obtain ⟨d, rfl, hS⟩ := hp
  rw [sl__law_right]
  refine sd_seq (sd_asg (ed_name (a := 1) (b := 7) rfl rfl rfl hS (by decide) (by decide) (by decide) fun b hb => ?_))
  refine sd_seq (sd_asg (NL.ed (nl_lcP (js := [9]) (by decide) (wd_range1 ?_))))
  walk_at "pr"
  refine ⟨by decide, by decide, by rw [upto_len]; decide, fun y => ∃ x, y = rowD x ∧ RowB b x, fun i x hx => ?_, fun es hes hR => ?_⟩
  · walk_at "pr"
    refine ed_call ?_
    refine ad_cons (ed_var rfl (ad_cons (ed_var rfl (ad_nil ⟨rfl, ⟨d, b, rfl, hS, hb⟩, fun r hr => hr d b rfl⟩))))
  rw [upto_len] at hes
  obtain ⟨y0, y1, y2, rfl⟩ : ∃ y0 y1 y2, es = [y0, y1, y2] := by
    match es, hes with
    | [y0, y1, y2], _ => exact ⟨y0, y1, y2, rfl⟩
  obtain ⟨m, rfl, hm⟩ := hR y0 (by simp)
  obtain ⟨l, rfl, hl2⟩ := hR y1 (by simp)
  obtain ⟨t, rfl, ht⟩ := hR y2 (by simp)
  walk_at "pr"
  refine ed_tup (ad_cons (ed_call ?_))
  refine ad_cons (ed_var rfl (ad_nil ⟨rfl, ⟨d, rfl, hS⟩, ?_⟩))
  rintro _ ⟨p, rfl, hp⟩
  walk_at "pr"
  refine od_ixLi (j := 0) rfl rfl ?_
  walk_at "pr"
  refine od_ixLi (j := 1) rfl rfl ?_
  walk_at "pr"
  refine od_ixLi (j := 2) rfl rfl ?_
  walk_at "pr"
  refine ⟨by show 4 ≤ 100000; decide, ?_⟩
  have haB : ScB b (p, m, l, t) := ⟨hp, hm, hl2, ht⟩
  have ha : ScOk (p, m, l, t) := haB.ok hb
  show SD Γ _ [.dat d, .dat (.str b), .dat (.lst [rowD m, rowD l, rowD t]), .dat (scD (p, m, l, t)), .un, .un, .un, .un, .un, .un, .un] _
  refine sd_seq (sd_asg (ed_call ?_))
  refine ad_cons (ed_var rfl (ad_cons (ed_var rfl (ad_cons (ed_var rfl (ad_nil ⟨rfl, ⟨d, (p, m, l, t), b, rfl, hS, haB, hb⟩, ?_⟩))))))
  rintro _ ⟨c, rfl, hc⟩
  generalize ea : (p, m, l, t) = a at ha haB ⊢
  have hm4 : a.2.1 = m := by rw [← ea]
  have hl4 : a.2.2.1 = l := by rw [← ea]
  have ht4 : a.2.2.2 = t := by rw [← ea]
  refine sd_seq (sd_asgG (js := [5] ++ ([6] ++ [])) (ed_tup (ad_cons (ed_wts ?_))))
  walk_at "pr"
  refine ⟨ha, ?_⟩
  refine ad_cons (ed_wts ?_)
  walk_at "pr"
  refine ⟨hc, ?_⟩
  walk_at "pr"
  refine ⟨by show 2 ≤ 100000; decide, gd_tup ⟨_, rfl, rfl, gds_cons (gd_name (gds_cons (gd_name (gds_nil ?_))))⟩⟩
  show SD Γ _ [.dat d, .dat (.str b), .dat (.lst [rowD m, rowD l, rowD t]), .dat (scD a), .dat (scD c), .dat (.obj C (fW (asc4 a))), .dat (.obj C (fW (asc4 c))), .un, .un, .un, .un] _
  have haa := ha.asc
  have hca := hc.asc
  have ok1 : ScOk (0, [], a.2.2.1, a.2.2.2) := ⟨Sw.zero, rowOk_nil, ha.l, ha.t⟩
  have ok2 : ScOk (0, a.2.1, [], []) := ⟨Sw.zero, ha.m, rowOk_nil, rowOk_nil⟩
  have ok3 : ScOk (0, [], [], []) := ⟨Sw.zero, rowOk_nil, rowOk_nil, rowOk_nil⟩
  refine sd_guard True ?_ fun _ => ?_
  · walk_at "pr"
    refine ed_shown ?_
    walk_at "pr"
    refine ⟨rfl, ha, ?_⟩
    walk_at "pr"
    refine ed_shown ?_
    walk_at "pr"
    refine ⟨rfl, hc, ?_⟩
    walk_at "pr"
    refine ed_shown (ed_neg1 ?_)
    walk_at "pr"
    refine ⟨haa, ed_opp4 ?_⟩
    walk_at "pr"
    refine ⟨ha, opp4 a, by rw [asc4_opp], rfl, ha.opp, ?_⟩
    walk_at "pr"
    try trivial
  refine sd_guard True ?_ fun _ => ?_
  · walk_at "pr"
    refine ed_shown (ed_neg1 (ed_neg1 ?_))
    walk_at "pr"
    refine ⟨haa, ?_⟩
    refine ⟨_, rfl, haa.opp.asc, ?_⟩
    refine ed_var rfl ?_
    refine ⟨a, by rw [neg2], rfl, ha, ?_⟩
    walk_at "pr"
    refine ed_shown ?_
    walk_at "pr"
    refine ⟨rfl, ha, ?_⟩
    walk_at "pr"
    refine ed_neg1 (ed_neg1 ?_)
    walk_at "pr"
    refine ⟨haa, ?_⟩
    refine ⟨_, rfl, haa.opp.asc, ?_⟩
    walk_at "pr"
    rw [neg2]
    refine od_eqW haa haa ?_
    rw [decide_eq_true rfl]
    walk_at "pr"
    try trivial
  refine sd_guard True ?_ fun _ => ?_
  · walk_at "pr"
    refine ed_shown (ed_mkTL h1 ?_)
    walk_at "pr"
    refine od_ixTi (j := 3) rfl rfl ?_
    walk_at "pr"
    refine od_ixTi (j := 2) rfl rfl ?_
    walk_at "pr"
    refine ⟨_, _, rfl, ok1, ?_⟩
    refine ed_tup ?_
    walk_at "pr"
    refine ed_tup (ad_nil ⟨by decide, ?_⟩)
    walk_at "pr"
    refine od_ixTi (j := 2) rfl rfl ?_
    walk_at "pr"
    refine od_ixTi (j := 3) rfl rfl ?_
    walk_at "pr"
    refine ⟨by show 4 ≤ 100000; decide, (0, [], a.2.2.1, a.2.2.2), rfl, rfl, ok1, ?_⟩
    walk_at "pr"
    try trivial
  refine sd_guard True ?_ fun _ => ?_
  · walk_at "pr"
    refine ed_shown (ed_mkM h2 h3 ?_)
    walk_at "pr"
    refine od_ixTi (j := 1) rfl rfl ?_
    walk_at "pr"
    refine ⟨ok2, ?_⟩
    refine ed_tup ?_
    walk_at "pr"
    refine od_ixTi (j := 1) rfl rfl ?_
    walk_at "pr"
    refine ed_tup (ad_nil ⟨by decide, ?_⟩)
    walk_at "pr"
    refine ed_tup (ad_nil ⟨by decide, ?_⟩)
    walk_at "pr"
    refine ⟨by show 4 ≤ 100000; decide, (0, a.2.1, [], []), rfl, rfl, ok2, ?_⟩
    walk_at "pr"
    try trivial
  refine sd_guard True ?_ fun _ => ?_
  · walk_at "pr"
    refine ed_shown (ed_mk00 h1 h2 h3 ?_)
    refine ed_tup ?_
    walk_at "pr"
    refine ed_tup (ad_nil ⟨by decide, ?_⟩)
    walk_at "pr"
    refine ed_tup (ad_nil ⟨by decide, ?_⟩)
    walk_at "pr"
    refine ed_tup (ad_nil ⟨by decide, ?_⟩)
    walk_at "pr"
    refine ⟨by show 4 ≤ 100000; decide, (0, [], [], []), rfl, rfl, ok3, ?_⟩
    walk_at "pr"
    try trivial
  refine sd_seq (sd_asg (ed_op (ED.rd (ed_asc ?_))))
  walk_at "pr"
  refine ⟨ha, ?_⟩
  refine ED.rd (ed_asc ?_)
  walk_at "pr"
  refine ⟨hc, ?_⟩
  refine od_eqSc haa hca ?_
  refine sd_guard True ?_ fun _ => ?_
  · walk_at "pr"
    refine NL.ed (nl_lst ?_)
    walk_at "pr"
    refine od_eqW haa hca ?_
    walk_at "pr"
    refine od_eqW hca haa ?_
    walk_at "pr"
    refine od_neW haa hca ?_
    walk_at "pr"
    refine ⟨by show 3 ≤ 100000; decide, ?_⟩
    refine ED.rd (NL.ed (nl_lst ?_))
    walk_at "pr"
    refine ⟨by show 3 ≤ 100000; decide, ?_⟩
    rw [dec_comm (asc4 c) (asc4 a)]
    generalize decide (asc4 a = asc4 c) = v
    refine od_ne (p := .list [.bool v, .bool v, .bool (!v)]) (q := .list [.bool v, .bool v, .bool (!v)]) rfl rfl rfl rfl ?_
    rw [show PyData.eqv (.list [.bool v, .bool v, .bool (!v)]) (.list [.bool v, .bool v, .bool (!v)]) = true by cases v <;> simp [PyData.eqv, PyData.eqvAll]]
    walk_at "pr"
    try trivial
  refine sd_guard True ?_ fun _ => ?_
  · walk_at "pr"
    refine ed_neg1 ?_
    walk_at "pr"
    refine ⟨haa, ?_⟩
    walk_at "pr"
    rw [asc4_opp]
    refine od_eqW ha.opp.asc haa ?_
    refine ED.rd (ed_op (ED.rd (ed_asc ?_)))
    walk_at "pr"
    refine ⟨ha, ?_⟩
    refine ED.rd (ed_asc (ed_opp4 ?_))
    walk_at "pr"
    refine ⟨ha, _, rfl, ha.opp, ?_⟩
    refine od_eqSc haa ha.opp.asc ?_
    rw [dec_comm (asc4 a) (asc4 (opp4 a))]
    generalize decide (asc4 (opp4 a) = asc4 a) = v
    refine od_ne (p := .bool v) (q := .bool v) rfl rfl rfl rfl ?_
    rw [show PyData.eqv (.bool v) (.bool v) = true by cases v <;> simp [PyData.eqv]]
    walk_at "pr"
    try trivial
  refine sd_seq (sd_asg (NL.ed (nl_lst ?_)))
  walk_at "pr"
  refine ed_asc ?_
  walk_at "pr"
  refine ⟨ha, ?_⟩
  walk_at "pr"
  refine ed_tup (ad_nil ⟨by decide, ?_⟩)
  walk_at "pr"
  refine ⟨by show 6 ≤ 100000; decide, ?_⟩
  walk_at "pr"
  refine NL.ed (nl_lcP (js := [10]) (by decide) (wd_list ?_))
  walk_at "pr"
  refine ⟨by show 6 ≤ 100000; decide, fun y => y = .bl false, fun i x hx => ?_, fun es hes hR => ?_⟩
  · have hx' : ∃ T, tyD x = some T ∧ T ≠ "list" ∧ (x = .non ∨ (∃ i, x = .int i) ∨ (∃ b, x = .bl b) ∨ (∃ z, x = .str z) ∨ ∃ ds, x = .tup ds) := by
      have := List.mem_of_getElem? hx
      simp only [List.mem_cons, List.not_mem_nil, or_false] at this
      rcases this with rfl | rfl | rfl | rfl | rfl | rfl
      · exact ⟨"tuple", rfl, by decide, .inr (.inr (.inr (.inr ⟨_, rfl⟩)))⟩
      · exact ⟨"tuple", rfl, by decide, .inr (.inr (.inr (.inr ⟨_, rfl⟩)))⟩
      · exact ⟨"NoneType", rfl, by decide, .inl rfl⟩
      · exact ⟨"int", rfl, by decide, .inr (.inl ⟨_, rfl⟩)⟩
      · exact ⟨"tuple", rfl, by decide, .inr (.inr (.inr (.inr ⟨_, rfl⟩)))⟩
      · exact ⟨"bool", rfl, by decide, .inr (.inr (.inl ⟨_, rfl⟩))⟩
    obtain ⟨T', hT1, hT2, hT3⟩ := hx'
    refine gd_name ?_
    refine ed_orV (ed_op (ED.rd (ed_var rfl (ED.rd (ed_var rfl ?_)))))
    refine od_eqWB haa hT1 hT2 ⟨false, rfl, fun z => (by cases z), fun _ => ?_⟩
    refine ed_op (ED.rd (ed_var rfl (ED.rd (ed_var rfl ?_))))
    exact od_eqWR haa hT1 hT3 rfl
  · have ee : es = (es.map fun _ => false).map Dt.bl := by
      rw [List.map_map]
      conv => lhs; rw [← List.map_id es]
      exact List.map_congr_left fun y hy => hR y hy
    rw [ee]
    walk_at "pr"
    refine cd_any ?_
    refine ⟨_, rfl, ?_⟩
    show Dt.bl _ = Dt.bl true
    have : (es.map fun _ => false).any id = false := by
      rw [List.any_map]
      exact List.any_eq_false.mpr fun x hx => by simp
    rw [this]
    rfl
end
end Pd.K31

set_option Elab.async false
set_option linter.all false
set_option maxRecDepth 100000
set_option maxHeartbeats 4000000
namespace Pd.K31
open PySem PySem.Spec PyProof.Rows L2 Pd
section
variable {K : PySem.W.Frag} {f : Addr} {fd : FuncData} {kws : List (Str × V)} {T1 T2 T3 : Addr}
abbrev FI (K : PySem.W.Frag) (kws : List (Str × V)) (f : Addr) (fd : FuncData) : Prop := FunD K "__init__" "Weights.__init__" (defArgs s_Weights___init__) (defBody s_Weights___init__) (defScope s_Weights___init__) [] kws f fd
abbrev kw4 (T1 T2 T3 : Addr) : List (Str × V) := [("page", .int 0), ("marks", .ref T1), ("links", .ref T2), ("templates", .ref T3)]
abbrev ps5 : List Str := ["self", "page", "marks", "links", "templates"]
theorem kb4 (F : FI K (kw4 T1 T2 T3) f fd) : ∃ g, KBn K fd ps5 1 ["page", "marks", "links", "templates"] g gV4 := by
  obtain ⟨mv, hb⟩ := FunD.kbinds0 (ps := ps5) F 1 ["page", "marks", "links", "templates"] [] (fun us _ ws => us ++ ws) (by simp) (by simp) (fun h1 _ h3 => h1.append h3) (fun D doc pm an cdv ct us mv ws h1 h2 h3 => by
    match us, ws, h1, h3 with
    | [u], [w1, w2, w3, w4], _, _ => rfl)
  exact ⟨_, hb⟩
theorem kbTL (F : FI K (kw4 T1 T2 T3) f fd) : ∃ g, KBn K fd ps5 1 ["templates", "links"] g (gTL T1) := by
  obtain ⟨mv, hb⟩ := FunD.kbinds0 (ps := ps5) F 1 ["templates", "links"] [("page", .int 0), ("marks", .ref T1)] (fun us mv ws => us ++ (mv ++ ws.reverse)) (by simp) (by simp) (fun h1 h2 h3 => h1.append (h2.append h3.reverse)) (fun D doc pm an cdv ct us mv ws h1 h2 h3 => by
    match us, mv, ws, h1, h2, h3 with
    | [u], [m1, m2], [w1, w2], _, _, _ => exact ⟨_, _, _, _, _, _, rfl, rfl, _, _, _, _, _, _, rfl, rfl, rfl⟩)
  exact ⟨_, hb⟩
theorem kbM (F : FI K (kw4 T1 T2 T3) f fd) : ∃ g, KBn K fd ps5 1 ["marks"] g (gM T2 T3) := by
  obtain ⟨mv, hb⟩ := FunD.kbinds0 (ps := ps5) F 1 ["marks"] [("page", .int 0), ("links", .ref T2), ("templates", .ref T3)] (fun us mv ws => us ++ (mv.take 1 ++ ws ++ mv.drop 1)) (by simp) (by simp) (fun h1 h2 h3 => h1.append (((h2.take 1).append h3).append (h2.drop 1))) (fun D doc pm an cdv ct us mv ws h1 h2 h3 => by
    match us, mv, ws, h1, h2, h3 with
    | [u], [m1, m2, m3], [w1], _, _, _ => exact ⟨_, _, _, _, _, _, rfl, rfl, _, _, _, _, _, _, rfl, rfl, _, _, _, _, _, _, rfl, rfl, rfl⟩)
  exact ⟨_, hb⟩
theorem kb00 (F : FI K (kw4 T1 T2 T3) f fd) : ∃ g, KBn K fd ps5 1 [] g (g00 T1 T2 T3) := by
  obtain ⟨mv, hb⟩ := FunD.kbinds0 (ps := ps5) F 1 [] (kw4 T1 T2 T3) (fun us mv ws => us ++ (mv ++ ws)) (by simp) (by simp) (fun h1 h2 h3 => h1.append (h2.append h3)) (fun D doc pm an cdv ct us mv ws h1 h2 h3 => by
    match us, mv, ws, h1, h2, h3 with
    | [u], [m1, m2, m3, m4], [], _, _, _ => exact ⟨_, _, _, _, _, _, rfl, rfl, _, _, _, _, _, _, rfl, rfl, _, _, _, _, _, _, rfl, rfl, _, _, _, _, _, _, rfl, rfl, rfl⟩)
  exact ⟨_, hb⟩
end
local macro_rules | `(tactic| walk_at "p0") => `(tactic| first
  | with_reducible refine sd_seq ?_ | with_reducible refine sd_ret ?_ | with_reducible refine sd_if ?_ | with_reducible refine sd_asgNil ?_ | with_reducible refine sd_asg ?_ | with_reducible refine sd_next ?_ | with_reducible refine sd_parD ?_ | with_reducible refine sd_par3 ?_
  | ((with_reducible refine' ed_var ?hv ?_); (case hv => rfl)) | with_reducible refine ed_int ?_ | with_reducible refine ed_str ?_ | with_reducible refine ed_bl ?_ | with_reducible refine ed_non ?_ | with_reducible refine ed_raw ?_
  | with_reducible refine ed_op ?_ | with_reducible refine ed_cb ?_ | with_reducible refine ra_cons ?_ | with_reducible refine ra_nil ?_ | with_reducible refine ad_cons ?_ | with_reducible refine ad_nil ?_ | with_reducible refine ed_chain ?_ | with_reducible refine ed_neg ?_ | with_reducible refine ed_fld ?_ | with_reducible refine ed_isN ?_
  | with_reducible refine td_test ?_ | with_reducible refine td_B ?_ | with_reducible refine td_not ?_ | with_reducible refine td_and ?_ | with_reducible refine td_or ?_ | with_reducible refine ed_andV ?_ | with_reducible refine ed_orV ?_ | with_reducible refine ed_notV ?_ | with_reducible refine ed_if ?_
  | with_reducible refine ED.rd ?_ | with_reducible refine gd_name ?_ | with_reducible refine op_none ?_ | with_reducible refine op_some ?_
  | with_reducible refine od_addI ?_ | with_reducible refine od_subI ?_ | with_reducible refine od_lt ?_ | with_reducible refine od_le ?_ | with_reducible refine od_gt ?_ | with_reducible refine od_ge ?_ | with_reducible refine od_eqI ?_ | with_reducible refine od_neI ?_ | with_reducible refine od_eqS ?_ | with_reducible refine od_neS ?_
  | with_reducible refine cd_int ?_ | with_reducible refine cd_abs ?_ | with_reducible refine cd_max2 ?_ | with_reducible refine cd_min2 ?_ | with_reducible refine cd_lenScr ?_ | ((with_reducible refine cd_lenS ?hz ?_); (case hz => first | decide | omega)) | with_reducible refine cd_lenL ?_ | with_reducible refine cd_lenT ?_
  | with_reducible refine ⟨_, rfl, ?_⟩
  | dsimp only [List.set_cons_zero, List.set_cons_succ]
  | refine ⟨fun _ => ?_, fun z => Bool.noConfusion z⟩ | refine ⟨fun z => Bool.noConfusion z, fun _ => ?_⟩)
local macro_rules | `(tactic| walk_at "p1") => `(tactic| first
  | ((with_reducible refine' ed_stk ?hd ?hM ?hJ ?hz ?hj ?_); (case hd => rfl); (case hM => assumption); (case hJ => assumption); (case hz => first | exact (rfl : (0 : Int) = ((0 : Nat) : Int)) | exact (rfl : (1 : Int) = ((1 : Nat) : Int)) | exact (rfl : (2 : Int) = ((2 : Nat) : Int))); (case hj => decide); intro x hx; (try have hx0 := hx.1 rfl); (try have hx1 := hx.2 rfl))
  | walk_at "p0"
  | ((with_reducible refine od_mod ?hc ?_); (case hc => first | decide | omega))
  | ((with_reducible refine od_mulI ?hc ?_); (case hc => first | exact .inl ⟨by decide, by decide⟩ | exact .inr ⟨by decide, by decide⟩ | exact .inl ⟨by omega, by omega⟩ | exact .inr ⟨by omega, by omega⟩))
  | ((with_reducible refine od_div ?hc ?_); (case hc => first | exact wide_div (b := 10) (by decide) (by decide) (by decide) (by decide) | exact wide_div (b := 10) (by omega) (by omega) (by decide) (by decide)))
  | ((with_reducible refine od_pow ?hc ?_); (case hc => exact ⟨by decide, by decide, by decide⟩)))
local macro_rules | `(tactic| walk_at "pr") => `(tactic| repeat walk_at "p1")

section
variable {P : Program} {w : World} {K : PySem.W.Frag} {mg : Str → Option Value} {base : Heap} {C : Addr}
abbrev s_law : Stmt := top 37
abbrev N_law : List Str := ["_law_cells", "_law_k", "_law_pool_here", "_law_turn"]
theorem sc_law : FnScope N_law ["_law_cells"] (defScope s_law) := ⟨rfl, rfl, rfl, by decide +kernel, rfl, by decide +kernel, by decide +kernel⟩
theorem sl_law (d0 : Dt) : slots N_law.length [d0] = [.dat d0, .un, .un, .un] := rfl
def preLaw : Wo → List Dt → Prop := fun W ds => W.M = none ∧ ∃ ns : List Int, ds = [.scr ns] ∧ ns.length ≤ 63
abbrev spLaw (K : PySem.W.Frag) : Sp := spW K 1 preLaw resTrue
theorem drall_int {K : PySem.W.Frag} {G : Hp} : ∀ {xs : List V} {ns : List Int}, DrAll K G xs (ns.map Dt.int) → xs = ns.map V.int
  | _, [], .nil => rfl
  | _, n :: ns, .cons r t => by
    cases r
    rw [List.map_cons, drall_int t]
theorem rng2 (n : Nat) : -(2 ^ 62) ≤ (if (if (6 : Int) < (n : Int) then (6 : Int) else (n : Int)) > 2 then (if (6 : Int) < (n : Int) then (6 : Int) else (n : Int)) else 2) ∧ (if (if (6 : Int) < (n : Int) then (6 : Int) else (n : Int)) > 2 then (if (6 : Int) < (n : Int) then (6 : Int) else (n : Int)) else 2) ≤ 6 ∧ 0 ≤ (if (if (6 : Int) < (n : Int) then (6 : Int) else (n : Int)) > 2 then (if (6 : Int) < (n : Int) then (6 : Int) else (n : Int)) else 2) := by
  split <;> split <;> omega
theorem ok_law {f : Addr} {fd : FuncData} (F : Fun K "law" "law" s_law f fd) (T : Txt K mg C) (c__law_cell : Cl P w K mg base 1 "_law_cell" (spCell K)) (c__law_pool : Cl P w K mg base 1 "_law_pool" (spPool K)) (c__law_right : ClG P w K mg base 6 "_law_right" (spRight K)) : Pg.FnG P w K mg base 7 f fd ["_law_cells"] (spLaw K) := by
  refine Pg.fnG_of F sc_law (fun vs H Q E h => h.1) (fun cdv A outer s H vs Q E hr hgd h => ?_)
  have hu65 := hr.units65
  refine ⟨_, (pss_cons (ps_for PassesOwn.never rfl (pi_range1 (by rfl) T.b_range (pa_cons (pe_callB (callMax2 rfl) (by rfl) T.b_max (by decide +kernel) (pa_cons pe_int (pa_cons (pe_callB (callMin2 rfl) (by rfl) T.b_min (by decide +kernel) (pa_cons (pe_callB (CallR.wk (r := Pd.rLen) (K := K) callLen rfl) (by rfl) T.b_len PySem.boot_len (pa_cons (pv 0) pa_nil)) (pa_cons pe_int pa_nil))) pa_nil))) pa_nil)) (pg_name (i := 1) sc_law.nd rfl (Or.inl rfl)) (pss_cons (ps_set (i := 2) sc_law.nd rfl (Or.inr rfl) (pe_cl c__law_pool hr (by decide) (by rfl) (pa_cons (pe_cl c__law_cell hr (by decide) (by rfl) (pa_cons (pv 0) (pa_cons (pv 1) pa_nil))) pa_nil)))
      (pss_one (ps_if (pt_not (pt_val (pe_callB (CallR.wk (r := rAll) (K := K) (cr_all rfl) rfl) (by rfl) T.b_all (by decide +kernel) (pa_cons (pe_lc (own := [("_law_turn", 3)]) (by rfl) sc_law.nd (pi_range1 (by rfl) T.b_range (pa_cons pe_int pa_nil)) (blkOk_by (own := [("_law_turn", 3)]) (N := N_law) (sc := defScope s_law) (by decide +kernel)) (fun _ _ _ _ _ => (pg_name (i := 3) sc_law.nd rfl (Or.inl rfl))) (fun _ _ _ _ _ => pts_nil) (fun _ _ _ _ _ => (pe_clG c__law_right hgd hr (by decide) (by rfl) (pa_cons (pv 2) pa_nil)))) pa_nil)))) (pss_one (ps_ret pe_bl)) pss_nil))))
      (pss_one (ps_ret pe_bl))), ?_⟩
  try dsimp only [cxOf, Cx.nox]
  refine body_of (N := N_law) (fun Γ ds hK hl hp => ?_) h
  subst hK
  obtain ⟨hm, ns, rfl, hns⟩ := hp
  rw [sl_law]
  refine sd_seq (sd_for (js := [1]) (wd_range1 ?_))
  walk_at "pr"
  obtain ⟨r1, r2, r3⟩ := rng2 ns.length
  refine ⟨r1, by omega, fun i δ' => ∃ a1 a2 a3 : Sl, δ' = [.dat (.scr ns), a1, a2, a3], ⟨_, _, _, rfl⟩, ?_, ?_⟩
  · rintro i x δ' hx ⟨a1, a2, a3, rfl⟩
    obtain ⟨hi, rfl⟩ := upto_get hx
    have hi : i < 7 := by omega
    refine gd_name (sd_seq (sd_asgV (vd_nl (nl_call (ad_cons (ed_call ?_))))))
    refine ad_cons (ed_var rfl (ad_cons (ed_var rfl (ad_nil ⟨rfl, ⟨ns, i, by rw [Int.zero_add], by omega⟩, ?_⟩))))
    rintro _ ⟨z, rfl⟩
    refine ad_nil ⟨rfl, ⟨z, rfl⟩, ?_⟩
    rintro es ⟨ms, hml, rfl, hmC⟩
    refine sd_world (i := 2) (SJ StC 3) hm rfl (fun G xs r => ⟨ms, hml, by rw [drall_int r], hmC⟩) ?_
    intro Γ' a hK' hM' hJ'
    rw [← hK']
    have hS : PreStk Γ'.W (.raw (.ref a)) := ⟨a, rfl, hM', hJ'⟩
    walk_at "pr"
    refine NL.ed (nl_lcP (js := [3]) (by decide) (wd_range1 ?_))
    walk_at "pr"
    refine ⟨by decide, by decide, by rw [upto_len]; decide, fun y => y = .bl true, fun j x hx => ?_, fun es hes hR => ?_⟩
    · refine gd_name (ed_call (ad_cons (ed_var rfl (ad_nil ⟨rfl, ⟨_, rfl, hS⟩, fun r hr => hr⟩))))
    · have ee : es = (es.map fun _ => true).map Dt.bl := by
        rw [List.map_map]
        conv => lhs; rw [← List.map_id es]
        exact List.map_congr_left fun y hy => hR y hy
      rw [ee]
      walk_at "pr"
      refine cd_all ?_
      have : (es.map fun _ => true).all id = true := by
        rw [List.all_map]
        exact List.all_eq_true.mpr fun x hx => rfl
      rw [this]
      walk_at "pr"
      exact ⟨_, _, _, rfl⟩
  · rintro δ' ⟨a1, a2, a3, rfl⟩
    walk_at "pr"
    rfl
end
end Pd.K31

set_option Elab.async false
set_option linter.all false
set_option maxRecDepth 100000
set_option maxHeartbeats 4000000
namespace Pd.K31
open PySem PySem.Spec PyProof.Rows L2 Pd
theorem law_pre {K : PySem.W.Frag} {H : Hp} {a : Addr} {ns : List Int} (hl : ns.length ≤ 63) (hS : SqL K H a (ns.map V.int)) : spLaw K [.ref a] H (fun v _ => v = .bl true) (fun _ _ _ => False) :=
  ⟨rfl, ⟨K, none, fun _ => True⟩, [.scr ns], H, rfl, ⟨Same.refl H, fun a e => by cases e⟩, .cons (.scr hS) .nil, ⟨rfl, ns, rfl, hl⟩, fun v d G' H' _ _ r e => by
    cases (show d = .bl true from e)
    cases r
    rfl⟩
theorem kc_of {K : PySem.W.Frag} {C : Addr} {cd : ClassData} (h : PySem.W.clsIn K C = some cd) (h2 : PySem.W.typeIn K (.ref C) = some (.type "type")) : ((PySem.W.clsIn K C).isSome && PySem.W.typeIn K (.ref C) == some (.type "type")) = true := by
  rw [h, h2]
  rfl
theorem all_mk {P : Program} {w : World} {K : PySem.W.Frag} {h : Heap} {mg : Str → Option Value} {fa : Addr} {C : Addr} {cld_Weights : ClassData} {f0 : Addr} {od0 an0 : Option Addr} {sl0 : Array (Option Value)} {oc0 dc0 pm0 cd0 ct0 : Value} {kV0 : Value} {f1 : Addr} {od1 an1 : Option Addr} {sl1 : Array (Option Value)} {oc1 dc1 pm1 cd1 ct1 : Value} {kV1 : Value} {f2 : Addr} {od2 an2 : Option Addr} {sl2 : Array (Option Value)} {oc2 dc2 pm2 cd2 ct2 : Value} {kV2 : Value} {f3 : Addr} {od3 an3 : Option Addr} {sl3 : Array (Option Value)} {oc3 dc3 pm3 cd3 ct3 : Value} {kV3 : Value} {f4 : Addr} {od4 an4 : Option Addr} {sl4 : Array (Option Value)} {oc4 dc4 pm4 cd4 ct4 : Value} {kV4 : Value} {f5 : Addr} {od5 an5 : Option Addr} {sl5 : Array (Option Value)} {oc5 dc5 pm5 cd5 ct5 : Value} {kV5 : Value} {f6 : Addr} {od6 an6 : Option Addr} {sl6 : Array (Option Value)} {oc6 dc6 pm6 cd6 ct6 : Value} {D6 : Addr} {tk0 : Tok} {T1 : Addr} {dd1 : Option Addr} {tn1 : Nat} {tl1 : Array (Option Value)} {T2 : Addr} {dd2 : Option Addr} {tn2 : Nat} {tl2 : Array (Option Value)} {T3 : Addr} {dd3 : Option Addr} {tn3 : Nat} {tl3 : Array (Option Value)} {f7 : Addr} {od7 an7 : Option Addr} {sl7 : Array (Option Value)} {oc7 dc7 pm7 cd7 ct7 : Value} {kV7 : Value} {f8 : Addr} {od8 an8 : Option Addr} {sl8 : Array (Option Value)} {oc8 dc8 pm8 cd8 ct8 : Value} {kV8 : Value} {f9 : Addr} {od9 an9 : Option Addr} {sl9 : Array (Option Value)} {oc9 dc9 pm9 cd9 ct9 : Value} {kV9 : Value} {f10 : Addr} {od10 an10 : Option Addr} {sl10 : Array (Option Value)} {oc10 dc10 pm10 cd10 ct10 : Value} {kV10 : Value} {f11 : Addr} {od11 an11 : Option Addr} {sl11 : Array (Option Value)} {oc11 dc11 pm11 cd11 ct11 : Value} {kV11 : Value} {f12 : Addr} {od12 an12 : Option Addr} {sl12 : Array (Option Value)} {oc12 dc12 pm12 cd12 ct12 : Value} {kV12 : Value} {f13 : Addr} {od13 an13 : Option Addr} {sl13 : Array (Option Value)} {oc13 dc13 pm13 cd13 ct13 : Value} {kV13 : Value} {f14 : Addr} {od14 an14 : Option Addr} {sl14 : Array (Option Value)} {oc14 dc14 pm14 cd14 ct14 : Value} {kV14 : Value} {f15 : Addr} {od15 an15 : Option Addr} {sl15 : Array (Option Value)} {oc15 dc15 pm15 cd15 ct15 : Value} {kV15 : Value} {f16 : Addr} {od16 an16 : Option Addr} {sl16 : Array (Option Value)} {oc16 dc16 pm16 cd16 ct16 : Value} {kV16 : Value} {f17 : Addr} {od17 an17 : Option Addr} {sl17 : Array (Option Value)} {oc17 dc17 pm17 cd17 ct17 : Value} {kV17 : Value} {f18 : Addr} {od18 an18 : Option Addr} {sl18 : Array (Option Value)} {oc18 dc18 pm18 cd18 ct18 : Value} {kV18 : Value} {f19 : Addr} {od19 an19 : Option Addr} {sl19 : Array (Option Value)} {oc19 dc19 pm19 cd19 ct19 : Value} {kV19 : Value} {f20 : Addr} {od20 an20 : Option Addr} {sl20 : Array (Option Value)} {oc20 dc20 pm20 cd20 ct20 : Value} {kV20 : Value} {f21 : Addr} {od21 an21 : Option Addr} {sl21 : Array (Option Value)} {oc21 dc21 pm21 cd21 ct21 : Value} {kV21 : Value} {f22 : Addr} {od22 an22 : Option Addr} {sl22 : Array (Option Value)} {oc22 dc22 pm22 cd22 ct22 : Value} {kV22 : Value} {f23 : Addr} {od23 an23 : Option Addr} {sl23 : Array (Option Value)} {oc23 dc23 pm23 cd23 ct23 : Value} {kV23 : Value} {t0 : Tok} {t1 : Tok} {t2 : Tok} {t3 : Tok} (X : K.In h) (G : h.Ns mainGlobals mg) (hfa : mg "law" = some (.ref fa))
    (hn : PySem.W.specialIn K (.builtin "object.__class__") "__get__" = some (some (.builtin "getset_descriptor.__get__")))
    (htk : PySem.W.takesIn K (.builtin "object.__class__") = some true)
    (aC_Weights : PySem.W.nsIn K mainGlobals "Weights" = some (some (.ref C)))
    (pg_Weights : PySem.W.plainGet K C Str.empty = true)
    (hd_Weights : PySem.W.hasDictIn K C = true)
    (po_Weights : PySem.W.plainOver K C = true)
    (sa_Weights : PySem.W.findIn K (.ref C) "__setattr__" = some (some (.builtin "object.__setattr__")))
    (mk_Weights : PySem.W.makesIn K C = true)
    (kc_Weights : PySem.W.keepIn K (.ref C) = true)
    (ha_Weights : PySem.W.findIn K (.ref C) "__class__" = some (some (.builtin "object.__class__")))
    (hm_Weights : PySem.W.mroIn K C (.type "object") = some true)
    (hmt_Weights : PySem.W.mroIn K C (.type "tuple") = some false)
    (hN_Weights : PySem.W.mroIn K C (.type "NoneType") = some false)
    (hi_Weights : PySem.W.mroIn K C (.type "int") = some false)
    (hb_Weights : PySem.W.mroIn K C (.type "bool") = some false)
    (hs_Weights : PySem.W.mroIn K C (.type "str") = some false)
    (ne_Weights : PySem.W.findIn K (.ref C) "__ne__" = some (some (.builtin "object.__ne__")))
    (kcl_Weights : PySem.W.clsIn K C = some cld_Weights)
    (kty_Weights : PySem.W.typeIn K (.ref C) = some (.type "type"))
    (nb_Weights : PySem.W.findIn K (.ref C) "__bool__" = some none)
    (nl_Weights : PySem.W.findIn K (.ref C) "__len__" = some none)
    (nf_Weights_page : PySem.W.findIn K (.ref C) "page" = some none)
    (nf_Weights_marks : PySem.W.findIn K (.ref C) "marks" = some none)
    (nf_Weights_links : PySem.W.findIn K (.ref C) "links" = some none)
    (nf_Weights_templates : PySem.W.findIn K (.ref C) "templates" = some none)
    (a0 : PySem.W.nsIn K mainGlobals "is_integer" = some (some (.ref f0)))
    (l0 : K.lookup f0 = some ⟨oc0, od0, .func (PySem.W.fnOf "is_integer" "is_integer" (defArgs s_is_integer) (defBody s_is_integer) (defScope s_is_integer) .none kV0 dc0 pm0 an0 cd0 ct0), sl0⟩)
    (c0 : PySem.W.codeIn K cd0 "is_integer" = true)
    (k0 : PySem.W.keepIn K (.ref f0) = true)
    (a1 : PySem.W.nsIn K mainGlobals "is_name" = some (some (.ref f1)))
    (l1 : K.lookup f1 = some ⟨oc1, od1, .func (PySem.W.fnOf "is_name" "is_name" (defArgs s_is_name) (defBody s_is_name) (defScope s_is_name) .none kV1 dc1 pm1 an1 cd1 ct1), sl1⟩)
    (c1 : PySem.W.codeIn K cd1 "is_name" = true)
    (k1 : PySem.W.keepIn K (.ref f1) = true)
    (a2 : PySem.W.nsIn K mainGlobals "is_row" = some (some (.ref f2)))
    (l2 : K.lookup f2 = some ⟨oc2, od2, .func (PySem.W.fnOf "is_row" "is_row" (defArgs s_is_row) (defBody s_is_row) (defScope s_is_row) .none kV2 dc2 pm2 an2 cd2 ct2), sl2⟩)
    (c2 : PySem.W.codeIn K cd2 "is_row" = true)
    (k2 : PySem.W.keepIn K (.ref f2) = true)
    (a3 : PySem.W.nsIn K mainGlobals "wrong_weight" = some (some (.ref f3)))
    (l3 : K.lookup f3 = some ⟨oc3, od3, .func (PySem.W.fnOf "wrong_weight" "wrong_weight" (defArgs s_wrong_weight) (defBody s_wrong_weight) (defScope s_wrong_weight) .none kV3 dc3 pm3 an3 cd3 ct3), sl3⟩)
    (c3 : PySem.W.codeIn K cd3 "wrong_weight" = true)
    (k3 : PySem.W.keepIn K (.ref f3) = true)
    (a4 : PySem.W.nsIn K mainGlobals "without_zeros" = some (some (.ref f4)))
    (l4 : K.lookup f4 = some ⟨oc4, od4, .func (PySem.W.fnOf "without_zeros" "without_zeros" (defArgs s_without_zeros) (defBody s_without_zeros) (defScope s_without_zeros) .none kV4 dc4 pm4 an4 cd4 ct4), sl4⟩)
    (c4 : PySem.W.codeIn K cd4 "without_zeros" = true)
    (k4 : PySem.W.keepIn K (.ref f4) = true)
    (a5 : PySem.W.nsIn K mainGlobals "opposite" = some (some (.ref f5)))
    (l5 : K.lookup f5 = some ⟨oc5, od5, .func (PySem.W.fnOf "opposite" "opposite" (defArgs s_opposite) (defBody s_opposite) (defScope s_opposite) .none kV5 dc5 pm5 an5 cd5 ct5), sl5⟩)
    (c5 : PySem.W.codeIn K cd5 "opposite" = true)
    (k5 : PySem.W.keepIn K (.ref f5) = true)
    (a6 : PySem.W.findIn K (.ref C) "__init__" = some (some (.ref f6)))
    (i6 : PySem.W.isFn K (.ref f6) = true)
    (l6 : K.lookup f6 = some ⟨oc6, od6, .func (PySem.W.fnOf "__init__" "Weights.__init__" (defArgs s_Weights___init__) (defBody s_Weights___init__) (defScope s_Weights___init__) .none (.ref D6) dc6 pm6 an6 cd6 ct6), sl6⟩)
    (c6 : PySem.W.codeIn K cd6 "Weights.__init__" = true)
    (k6 : PySem.W.keepIn K (.ref f6) = true)
    (kw0 : PySem.W.nsIn K D6 "page" = some (some (.int 0 tk0)))
    (kw1 : PySem.W.nsIn K D6 "marks" = some (some (.ref T1)))
    (kt1 : K.lookup T1 = some ⟨.type "tuple", dd1, .seq #[] tn1, tl1⟩)
    (kw2 : PySem.W.nsIn K D6 "links" = some (some (.ref T2)))
    (kt2 : K.lookup T2 = some ⟨.type "tuple", dd2, .seq #[] tn2, tl2⟩)
    (kw3 : PySem.W.nsIn K D6 "templates" = some (some (.ref T3)))
    (kt3 : K.lookup T3 = some ⟨.type "tuple", dd3, .seq #[] tn3, tl3⟩)
    (a7 : PySem.W.findIn K (.ref C) "__neg__" = some (some (.ref f7)))
    (i7 : PySem.W.isFn K (.ref f7) = true)
    (l7 : K.lookup f7 = some ⟨oc7, od7, .func (PySem.W.fnOf "__neg__" "Weights.__neg__" (defArgs s_Weights___neg__) (defBody s_Weights___neg__) (defScope s_Weights___neg__) .none kV7 dc7 pm7 an7 cd7 ct7), sl7⟩)
    (c7 : PySem.W.codeIn K cd7 "Weights.__neg__" = true)
    (k7 : PySem.W.keepIn K (.ref f7) = true)
    (a8 : PySem.W.findIn K (.ref C) "__eq__" = some (some (.ref f8)))
    (i8 : PySem.W.isFn K (.ref f8) = true)
    (l8 : K.lookup f8 = some ⟨oc8, od8, .func (PySem.W.fnOf "__eq__" "Weights.__eq__" (defArgs s_Weights___eq__) (defBody s_Weights___eq__) (defScope s_Weights___eq__) .none kV8 dc8 pm8 an8 cd8 ct8), sl8⟩)
    (c8 : PySem.W.codeIn K cd8 "Weights.__eq__" = true)
    (k8 : PySem.W.keepIn K (.ref f8) = true)
    (a9 : PySem.W.nsIn K mainGlobals "_law_cell" = some (some (.ref f9)))
    (l9 : K.lookup f9 = some ⟨oc9, od9, .func (PySem.W.fnOf "_law_cell" "_law_cell" (defArgs s__law_cell) (defBody s__law_cell) (defScope s__law_cell) .none kV9 dc9 pm9 an9 cd9 ct9), sl9⟩)
    (c9 : PySem.W.codeIn K cd9 "_law_cell" = true)
    (k9 : PySem.W.keepIn K (.ref f9) = true)
    (a10 : PySem.W.nsIn K mainGlobals "_law_pool" = some (some (.ref f10)))
    (l10 : K.lookup f10 = some ⟨oc10, od10, .func (PySem.W.fnOf "_law_pool" "_law_pool" (defArgs s__law_pool) (defBody s__law_pool) (defScope s__law_pool) .none kV10 dc10 pm10 an10 cd10 ct10), sl10⟩)
    (c10 : PySem.W.codeIn K cd10 "_law_pool" = true)
    (k10 : PySem.W.keepIn K (.ref f10) = true)
    (a11 : PySem.W.nsIn K mainGlobals "_law_draw" = some (some (.ref f11)))
    (l11 : K.lookup f11 = some ⟨oc11, od11, .func (PySem.W.fnOf "_law_draw" "_law_draw" (defArgs s__law_draw) (defBody s__law_draw) (defScope s__law_draw) .none kV11 dc11 pm11 an11 cd11 ct11), sl11⟩)
    (c11 : PySem.W.codeIn K cd11 "_law_draw" = true)
    (k11 : PySem.W.keepIn K (.ref f11) = true)
    (a12 : PySem.W.nsIn K mainGlobals "_law_name" = some (some (.ref f12)))
    (l12 : K.lookup f12 = some ⟨oc12, od12, .func (PySem.W.fnOf "_law_name" "_law_name" (defArgs s__law_name) (defBody s__law_name) (defScope s__law_name) .none kV12 dc12 pm12 an12 cd12 ct12), sl12⟩)
    (c12 : PySem.W.codeIn K cd12 "_law_name" = true)
    (k12 : PySem.W.keepIn K (.ref f12) = true)
    (a13 : PySem.W.nsIn K mainGlobals "_law_pages" = some (some (.ref f13)))
    (l13 : K.lookup f13 = some ⟨oc13, od13, .func (PySem.W.fnOf "_law_pages" "_law_pages" (defArgs s__law_pages) (defBody s__law_pages) (defScope s__law_pages) .none kV13 dc13 pm13 an13 cd13 ct13), sl13⟩)
    (c13 : PySem.W.codeIn K cd13 "_law_pages" = true)
    (k13 : PySem.W.keepIn K (.ref f13) = true)
    (a14 : PySem.W.nsIn K mainGlobals "_law_integer" = some (some (.ref f14)))
    (l14 : K.lookup f14 = some ⟨oc14, od14, .func (PySem.W.fnOf "_law_integer" "_law_integer" (defArgs s__law_integer) (defBody s__law_integer) (defScope s__law_integer) .none kV14 dc14 pm14 an14 cd14 ct14), sl14⟩)
    (c14 : PySem.W.codeIn K cd14 "_law_integer" = true)
    (k14 : PySem.W.keepIn K (.ref f14) = true)
    (a15 : PySem.W.nsIn K mainGlobals "_law_ascending" = some (some (.ref f15)))
    (l15 : K.lookup f15 = some ⟨oc15, od15, .func (PySem.W.fnOf "_law_ascending" "_law_ascending" (defArgs s__law_ascending) (defBody s__law_ascending) (defScope s__law_ascending) .none kV15 dc15 pm15 an15 cd15 ct15), sl15⟩)
    (c15 : PySem.W.codeIn K cd15 "_law_ascending" = true)
    (k15 : PySem.W.keepIn K (.ref f15) = true)
    (a16 : PySem.W.nsIn K mainGlobals "_law_weights" = some (some (.ref f16)))
    (l16 : K.lookup f16 = some ⟨oc16, od16, .func (PySem.W.fnOf "_law_weights" "_law_weights" (defArgs s__law_weights) (defBody s__law_weights) (defScope s__law_weights) .none kV16 dc16 pm16 an16 cd16 ct16), sl16⟩)
    (c16 : PySem.W.codeIn K cd16 "_law_weights" = true)
    (k16 : PySem.W.keepIn K (.ref f16) = true)
    (a17 : PySem.W.nsIn K mainGlobals "_law_row" = some (some (.ref f17)))
    (l17 : K.lookup f17 = some ⟨oc17, od17, .func (PySem.W.fnOf "_law_row" "_law_row" (defArgs s__law_row) (defBody s__law_row) (defScope s__law_row) .none kV17 dc17 pm17 an17 cd17 ct17), sl17⟩)
    (c17 : PySem.W.codeIn K cd17 "_law_row" = true)
    (k17 : PySem.W.keepIn K (.ref f17) = true)
    (a18 : PySem.W.nsIn K mainGlobals "_law_near_row" = some (some (.ref f18)))
    (l18 : K.lookup f18 = some ⟨oc18, od18, .func (PySem.W.fnOf "_law_near_row" "_law_near_row" (defArgs s__law_near_row) (defBody s__law_near_row) (defScope s__law_near_row) .none kV18 dc18 pm18 an18 cd18 ct18), sl18⟩)
    (c18 : PySem.W.codeIn K cd18 "_law_near_row" = true)
    (k18 : PySem.W.keepIn K (.ref f18) = true)
    (a19 : PySem.W.nsIn K mainGlobals "_law_near" = some (some (.ref f19)))
    (l19 : K.lookup f19 = some ⟨oc19, od19, .func (PySem.W.fnOf "_law_near" "_law_near" (defArgs s__law_near) (defBody s__law_near) (defScope s__law_near) .none kV19 dc19 pm19 an19 cd19 ct19), sl19⟩)
    (c19 : PySem.W.codeIn K cd19 "_law_near" = true)
    (k19 : PySem.W.keepIn K (.ref f19) = true)
    (a20 : PySem.W.nsIn K mainGlobals "_law_shown" = some (some (.ref f20)))
    (l20 : K.lookup f20 = some ⟨oc20, od20, .func (PySem.W.fnOf "_law_shown" "_law_shown" (defArgs s__law_shown) (defBody s__law_shown) (defScope s__law_shown) .none kV20 dc20 pm20 an20 cd20 ct20), sl20⟩)
    (c20 : PySem.W.codeIn K cd20 "_law_shown" = true)
    (k20 : PySem.W.keepIn K (.ref f20) = true)
    (a21 : PySem.W.nsIn K mainGlobals "_law_opposite" = some (some (.ref f21)))
    (l21 : K.lookup f21 = some ⟨oc21, od21, .func (PySem.W.fnOf "_law_opposite" "_law_opposite" (defArgs s__law_opposite) (defBody s__law_opposite) (defScope s__law_opposite) .none kV21 dc21 pm21 an21 cd21 ct21), sl21⟩)
    (c21 : PySem.W.codeIn K cd21 "_law_opposite" = true)
    (k21 : PySem.W.keepIn K (.ref f21) = true)
    (a22 : PySem.W.nsIn K mainGlobals "_law_right" = some (some (.ref f22)))
    (l22 : K.lookup f22 = some ⟨oc22, od22, .func (PySem.W.fnOf "_law_right" "_law_right" (defArgs s__law_right) (defBody s__law_right) (defScope s__law_right) .none kV22 dc22 pm22 an22 cd22 ct22), sl22⟩)
    (c22 : PySem.W.codeIn K cd22 "_law_right" = true)
    (k22 : PySem.W.keepIn K (.ref f22) = true)
    (a23 : PySem.W.nsIn K mainGlobals "law" = some (some (.ref f23)))
    (l23 : K.lookup f23 = some ⟨oc23, od23, .func (PySem.W.fnOf "law" "law" (defArgs s_law) (defBody s_law) (defScope s_law) .none kV23 dc23 pm23 an23 cd23 ct23), sl23⟩)
    (c23 : PySem.W.codeIn K cd23 "law" = true)
    (k23 : PySem.W.keepIn K (.ref f23) = true)
    (z0 : PySem.W.nsIn K mainGlobals "len" = some none)
    (z1 : PySem.W.nsIn K mainGlobals "int" = some none)
    (z2 : PySem.W.nsIn K mainGlobals "abs" = some none)
    (z3 : PySem.W.nsIn K mainGlobals "isinstance" = some none)
    (z4 : PySem.W.nsIn K mainGlobals "str" = some none)
    (z5 : PySem.W.nsIn K mainGlobals "bool" = some none)
    (z6 : PySem.W.nsIn K mainGlobals "tuple" = some none)
    (z7 : PySem.W.nsIn K mainGlobals "list" = some none)
    (z8 : PySem.W.nsIn K mainGlobals "all" = some none)
    (z9 : PySem.W.nsIn K mainGlobals "any" = some none)
    (z10 : PySem.W.nsIn K mainGlobals "range" = some none)
    (z11 : PySem.W.nsIn K mainGlobals "enumerate" = some none)
    (z12 : PySem.W.nsIn K mainGlobals "sorted" = some none)
    (z13 : PySem.W.nsIn K mainGlobals "divmod" = some none)
    (z14 : PySem.W.nsIn K mainGlobals "max" = some none)
    (z15 : PySem.W.nsIn K mainGlobals "min" = some none)
    (z16 : PySem.W.nsIn K mainGlobals "repr" = some none)
    (qq0 : PySem.W.nsIn K mainGlobals "LETTERS" = some (some (.str "abcdefghijklmnopqrstuvwxyz" t0)))
    (qq1 : PySem.W.nsIn K mainGlobals "SIGNS" = some (some (.str "abcdefghijklmnopqrstuvwxyz0123456789" t1)))
    (qq2 : PySem.W.nsIn K mainGlobals "LONGEST" = some (some (.int 8 t2)))
    (qq3 : PySem.W.nsIn K mainGlobals "MOST_NAMES" = some (some (.int 12 t3)))
    : ∃ fd : FuncData, (∀ (s : Shared) (v : Value), BindsTo s fd ⟨[v], []⟩ [("_law_cells", v)]) ∧ ∀ base : Heap, K.In base → base.Ns mainGlobals mg → Pg.FnG P w K mg base 7 fa fd ["_law_cells"] (spLaw K) := by
  have e := hfa.symm.trans (PySem.W.mg_of X G a23)
  cases e
  have T : Txt K mg C := ⟨PySem.W.mg_none_of X G z0, PySem.W.mg_none_of X G z1, PySem.W.mg_none_of X G z2, PySem.W.mg_none_of X G z3, PySem.W.mg_none_of X G z4, PySem.W.mg_none_of X G z5, PySem.W.mg_none_of X G z6, PySem.W.mg_none_of X G z7, PySem.W.mg_none_of X G z8, PySem.W.mg_none_of X G z9, PySem.W.mg_none_of X G z10, PySem.W.mg_none_of X G z11, PySem.W.mg_none_of X G z12, PySem.W.mg_none_of X G z13, PySem.W.mg_none_of X G z14, PySem.W.mg_none_of X G z15, PySem.W.mg_none_of X G z16, ⟨_, PySem.W.mg_of X G qq0, ⟨_, rfl⟩⟩, ⟨_, PySem.W.mg_of X G qq1, ⟨_, rfl⟩⟩, ⟨_, PySem.W.mg_of X G qq2, ⟨_, rfl⟩⟩, ⟨_, PySem.W.mg_of X G qq3, ⟨_, rfl⟩⟩, ⟨_, PySem.W.mg_of X G aC_Weights, rfl⟩, ⟨⟨⟨pg_Weights, hd_Weights, po_Weights, sa_Weights⟩, ha_Weights, hn, htk, hm_Weights, hmt_Weights, ne_Weights, kc_of kcl_Weights kty_Weights⟩, hN_Weights, hi_Weights, hb_Weights, hs_Weights⟩, nb_Weights, nl_Weights, nf_Weights_page, nf_Weights_marks, nf_Weights_links, nf_Weights_templates⟩
  have F0 := fun_mk (st := s_is_integer) l0 c0 k0
  have b0 := F0.binds (ps := ["value"]) fun _ _ _ _ _ _ us hl => match us, hl with | [_], _ => rfl
  have c_is_integer : ∀ base : Heap, Cl P w K mg base 1 "is_integer" (spInteger K) := fun base => ⟨_, _, _, ok_is_integer F0 T , PySem.W.mg_of X G a0, k0, b0⟩
  have F1 := fun_mk (st := s_is_name) l1 c1 k1
  have b1 := F1.binds (ps := ["value"]) fun _ _ _ _ _ _ us hl => match us, hl with | [_], _ => rfl
  have c_is_name : ∀ base : Heap, Cl P w K mg base 1 "is_name" (spName K) := fun base => ⟨_, _, _, ok_is_name F1 T , PySem.W.mg_of X G a1, k1, b1⟩
  have F2 := fun_mk (st := s_is_row) l2 c2 k2
  have b2 := F2.binds (ps := ["value", "length"]) fun _ _ _ _ _ _ us hl => match us, hl with | [_, _], _ => rfl
  have c_is_row : ∀ base : Heap, Cl P w K mg base 1 "is_row" (spRow K) := fun base => ⟨_, _, _, ok_is_row F2 T , PySem.W.mg_of X G a2, k2, b2⟩
  have F3 := fun_mk (st := s_wrong_weight) l3 c3 k3
  have b3 := F3.binds (ps := ["value"]) fun _ _ _ _ _ _ us hl => match us, hl with | [_], _ => rfl
  have c_wrong_weight : ∀ base : Heap, Cl P w K mg base 2 "wrong_weight" (spWrong K) := fun base => ⟨_, _, _, ok_wrong F3 T (c_is_row base) (c_is_name base) (c_is_integer base), PySem.W.mg_of X G a3, k3, b3⟩
  have F4 := fun_mk (st := s_without_zeros) l4 c4 k4
  have b4 := F4.binds (ps := ["pairs"]) fun _ _ _ _ _ _ us hl => match us, hl with | [_], _ => rfl
  have c_without_zeros : ∀ base : Heap, Cl P w K mg base 1 "without_zeros" (spZeros K) := fun base => ⟨_, _, _, ok_zeros F4 T , PySem.W.mg_of X G a4, k4, b4⟩
  have F5 := fun_mk (st := s_opposite) l5 c5 k5
  have b5 := F5.binds (ps := ["pairs"]) fun _ _ _ _ _ _ us hl => match us, hl with | [_], _ => rfl
  have c_opposite : ∀ base : Heap, Cl P w K mg base 1 "opposite" (spOpp K) := fun base => ⟨_, _, _, ok_opp F5 T , PySem.W.mg_of X G a5, k5, b5⟩
  have F6 : FunD K "__init__" "Weights.__init__" (defArgs s_Weights___init__) (defBody s_Weights___init__) (defScope s_Weights___init__) [] [("page", .int 0), ("marks", .ref T1), ("links", .ref T2), ("templates", .ref T3)] f6 _ := ⟨⟨_, _, _, _, _, _, _, _, _, _, rfl, l6, c6, .inl ⟨rfl, rfl⟩, .inr ⟨_, rfl, fun q hq => by
    simp only [List.mem_cons, List.not_mem_nil, or_false] at hq
    rcases hq with rfl | rfl | rfl | rfl
    · exact ⟨_, kw0, ⟨_, rfl⟩⟩
    · exact ⟨_, kw1, rfl⟩
    · exact ⟨_, kw2, rfl⟩
    · exact ⟨_, kw3, rfl⟩
    ⟩⟩, k6⟩
  have e_T1 : EmptyT K T1 := fun H => .inr ⟨_, #[], _, kt1, rfl, rfl, by decide, .nil⟩
  have e_T2 : EmptyT K T2 := fun H => .inr ⟨_, #[], _, kt2, rfl, rfl, by decide, .nil⟩
  have e_T3 : EmptyT K T3 := fun H => .inr ⟨_, #[], _, kt3, rfl, rfl, by decide, .nil⟩
  have M_Weights : Mk K C f6 := ⟨mk_Weights, a6, i6, kc_Weights⟩
  have I_Weights : ∀ base : Heap, FnOk P w K mg base L2.CX0 3 f6 _ ["self", "page", "marks", "links", "templates"] (spInitW K C) := fun base => ok_init F6 T (c_is_integer base) (c_wrong_weight base) (c_without_zeros base)
  have i_Weights_0_page_marks_links_templates : ∀ base : Heap, ClIK P w K mg base 3 C "Weights" 0 ["page", "marks", "links", "templates"] gV4 (spInitW K C) := fun base => let ⟨_, hb⟩ := kb4 F6; ⟨_, _, _, _, I_Weights base, M_Weights, PySem.W.mg_of X G aC_Weights, hb⟩
  have i_Weights_0_templates_links : ∀ base : Heap, ClIK P w K mg base 3 C "Weights" 0 ["templates", "links"] (gTL T1) (spInitW K C) := fun base => let ⟨_, hb⟩ := kbTL F6; ⟨_, _, _, _, I_Weights base, M_Weights, PySem.W.mg_of X G aC_Weights, hb⟩
  have i_Weights_0_marks : ∀ base : Heap, ClIK P w K mg base 3 C "Weights" 0 ["marks"] (gM T2 T3) (spInitW K C) := fun base => let ⟨_, hb⟩ := kbM F6; ⟨_, _, _, _, I_Weights base, M_Weights, PySem.W.mg_of X G aC_Weights, hb⟩
  have i_Weights_0 : ∀ base : Heap, ClIK P w K mg base 3 C "Weights" 0 [] (g00 T1 T2 T3) (spInitW K C) := fun base => let ⟨_, hb⟩ := kb00 F6; ⟨_, _, _, _, I_Weights base, M_Weights, PySem.W.mg_of X G aC_Weights, hb⟩
  have F7 := fun_mk (st := s_Weights___neg__) l7 c7 k7
  have b7 := F7.binds (ps := ["self"]) fun _ _ _ _ _ _ us hl => match us, hl with | [_], _ => rfl
  have c_Weights___neg__ : ∀ base : Heap, ClM P w K mg base 5 C "__neg__" (spNeg K C) := fun base => ⟨_, _, _, ok_neg F7 T (c_opposite base) (i_Weights_0_page_marks_links_templates base), ⟨a7, i7, k7⟩, b7⟩
  have F8 := fun_mk (st := s_Weights___eq__) l8 c8 k8
  have b8 := F8.binds (ps := ["self", "other"]) fun _ _ _ _ _ _ us hl => match us, hl with | [_, _], _ => rfl
  have c_Weights___eq__ : ∀ base : Heap, ClM P w K mg base 1 C "__eq__" (spEqW K C) := fun base => ⟨_, _, _, ok_eq F8 T , ⟨a8, i8, k8⟩, b8⟩
  have F9 := fun_mk (st := s__law_cell) l9 c9 k9
  have b9 := F9.binds (ps := ["_law_cells", "_law_k"]) fun _ _ _ _ _ _ us hl => match us, hl with | [_, _], _ => rfl
  have c__law_cell : ∀ base : Heap, Cl P w K mg base 1 "_law_cell" (spCell K) := fun base => ⟨_, _, _, ok_cell F9 T , PySem.W.mg_of X G a9, k9, b9⟩
  have F10 := fun_mk (st := s__law_pool) l10 c10 k10
  have b10 := F10.binds (ps := ["_law_cell_here"]) fun _ _ _ _ _ _ us hl => match us, hl with | [_], _ => rfl
  have c__law_pool : ∀ base : Heap, Cl P w K mg base 1 "_law_pool" (spPool K) := fun base => ⟨_, _, _, ok_pool F10 T , PySem.W.mg_of X G a10, k10, b10⟩
  have F11 := fun_mk (st := s__law_draw) l11 c11 k11
  have b11 := F11.binds (ps := ["_law_pool_here", "_law_many"]) fun _ _ _ _ _ _ us hl => match us, hl with | [_, _], _ => rfl
  have c__law_draw : ∀ base : Heap, Cl P w K mg base 1 "_law_draw" (spDraw K) := fun base => ⟨_, _, _, ok_draw F11 T , PySem.W.mg_of X G a11, k11, b11⟩
  have F12 := fun_mk (st := s__law_name) l12 c12 k12
  have b12 := F12.binds (ps := ["_law_pool_here", "_law_fewest", "_law_most"]) fun _ _ _ _ _ _ us hl => match us, hl with | [_, _, _], _ => rfl
  have c__law_name : ∀ base : Heap, Cl P w K mg base 2 "_law_name" (spLName K) := fun base => ⟨_, _, _, ok_name F12 T (c__law_draw base), PySem.W.mg_of X G a12, k12, b12⟩
  have F13 := fun_mk (st := s__law_pages) l13 c13 k13
  have b13 := F13.binds (ps := ["_law_pool_here", "_law_many", "_law_wanted"]) fun _ _ _ _ _ _ us hl => match us, hl with | [_, _, _], _ => rfl
  have c__law_pages : ∀ base : Heap, Cl P w K mg base 2 "_law_pages" (spPages K) := fun base => ⟨_, _, _, ok_pages F13 T (c__law_draw base), PySem.W.mg_of X G a13, k13, b13⟩
  have F14 := fun_mk (st := s__law_integer) l14 c14 k14
  have b14 := F14.binds (ps := ["_law_pool_here"]) fun _ _ _ _ _ _ us hl => match us, hl with | [_], _ => rfl
  have c__law_integer : ∀ base : Heap, Cl P w K mg base 2 "_law_integer" (spInt K) := fun base => ⟨_, _, _, ok_integer F14 T (c__law_draw base), PySem.W.mg_of X G a14, k14, b14⟩
  have F15 := fun_mk (st := s__law_ascending) l15 c15 k15
  have b15 := F15.binds (ps := ["_law_scales"]) fun _ _ _ _ _ _ us hl => match us, hl with | [_], _ => rfl
  have c__law_ascending : ∀ base : Heap, Cl P w K mg base 1 "_law_ascending" (spAsc K) := fun base => ⟨_, _, _, ok_asc F15 T , PySem.W.mg_of X G a15, k15, b15⟩
  have F16 := fun_mk (st := s__law_weights) l16 c16 k16
  have b16 := F16.binds (ps := ["_law_scales"]) fun _ _ _ _ _ _ us hl => match us, hl with | [_], _ => rfl
  have c__law_weights : ∀ base : Heap, Cl P w K mg base 5 "_law_weights" (spWts K C) := fun base => ⟨_, _, _, ok_wts F16 T (i_Weights_0_page_marks_links_templates base), PySem.W.mg_of X G a16, k16, b16⟩
  have F17 := fun_mk (st := s__law_row) l17 c17 k17
  have b17 := F17.binds (ps := ["_law_pool_here", "_law_base"]) fun _ _ _ _ _ _ us hl => match us, hl with | [_, _], _ => rfl
  have c__law_row : ∀ base : Heap, Cl P w K mg base 3 "_law_row" (spLRow K) := fun base => ⟨_, _, _, ok_row F17 T (c__law_draw base) (c__law_integer base) (c__law_pages base), PySem.W.mg_of X G a17, k17, b17⟩
  have F18 := fun_mk (st := s__law_near_row) l18 c18 k18
  have b18 := F18.binds (ps := ["_law_pool_here", "_law_row_here", "_law_base"]) fun _ _ _ _ _ _ us hl => match us, hl with | [_, _, _], _ => rfl
  have c__law_near_row : ∀ base : Heap, Cl P w K mg base 2 "_law_near_row" (spNear1 K) := fun base => ⟨_, _, _, ok_near1 F18 T (c__law_draw base), PySem.W.mg_of X G a18, k18, b18⟩
  have F19 := fun_mk (st := s__law_near) l19 c19 k19
  have b19 := F19.binds (ps := ["_law_pool_here", "_law_scales", "_law_base"]) fun _ _ _ _ _ _ us hl => match us, hl with | [_, _, _], _ => rfl
  have c__law_near : ∀ base : Heap, Cl P w K mg base 3 "_law_near" (spNear K) := fun base => ⟨_, _, _, ok_near F19 T (c__law_draw base) (c__law_ascending base) (c__law_near_row base), PySem.W.mg_of X G a19, k19, b19⟩
  have F20 := fun_mk (st := s__law_shown) l20 c20 k20
  have b20 := F20.binds (ps := ["_law_mine", "_law_scales"]) fun _ _ _ _ _ _ us hl => match us, hl with | [_, _], _ => rfl
  have c__law_shown : ∀ base : Heap, ClG P w K mg base 2 "_law_shown" (spShown K C) := fun base => ⟨_, _, _, ok_shown F20 T (c__law_ascending base), PySem.W.mg_of X G a20, k20, b20⟩
  have F21 := fun_mk (st := s__law_opposite) l21 c21 k21
  have b21 := F21.binds (ps := ["_law_scales"]) fun _ _ _ _ _ _ us hl => match us, hl with | [_], _ => rfl
  have c__law_opposite : ∀ base : Heap, Cl P w K mg base 1 "_law_opposite" (spOpp4 K) := fun base => ⟨_, _, _, ok_opp4 F21 T , PySem.W.mg_of X G a21, k21, b21⟩
  have F22 := fun_mk (st := s__law_right) l22 c22 k22
  have b22 := F22.binds (ps := ["_law_pool_here"]) fun _ _ _ _ _ _ us hl => match us, hl with | [_], _ => rfl
  have c__law_right : ∀ base : Heap, ClG P w K mg base 6 "_law_right" (spRight K) := fun base => ⟨_, _, _, ok_right F22 T e_T1 e_T2 e_T3 (c__law_name base) (c__law_row base) (c__law_integer base) (c__law_near base) (c__law_weights base) (c__law_shown base) (c__law_opposite base) (c__law_ascending base) (c_Weights___neg__ base) (c_Weights___eq__ base) (i_Weights_0_templates_links base) (i_Weights_0_marks base) (i_Weights_0 base), PySem.W.mg_of X G a22, k22, b22⟩
  have F23 := fun_mk (st := s_law) l23 c23 k23
  exact ⟨_, fun s v => .of_eq rfl, fun base _ _ => ok_law F23 T (c__law_cell base) (c__law_pool base) (c__law_right base)⟩
end Pd.K31
open PySem PySem.W PyProof.Rows
set_option maxRecDepth 100000 in
set_option maxHeartbeats 0 in
theorem PySem.Challenge.cw_everysite_k31_weights_made_holds : PySem.Challenge.rw_everysite_k31_weights_made.Holds := by
  w_on; o_law; k_head; (case hw => w_witness2)
  k_fill
  refine Pg.walkG_of (l := PySem.Challenge.rw_everysite_k31_weights_made) (n := 63) (k := 7) (x := "_law_cells") (sp := fun w => Pd.K31.spLaw _) rfl (by decide) rfl ⟨rfl, by decide, by decide⟩ (fun w h Y => PySem.W.kIn_of Y) ?F (fun _ _ a ns hl _ hS => Pd.K31.law_pre hl hS)
  case F =>
    intro w mg fa h KX G hmg
    refine' Pd.K31.all_mk KX G hmg ?hn ?htk ?aC_Weights ?pg_Weights ?hd_Weights ?po_Weights ?sa_Weights ?mk_Weights ?kc_Weights ?ha_Weights ?hm_Weights ?hmt_Weights ?hN_Weights ?hi_Weights ?hb_Weights ?hs_Weights ?ne_Weights ?kcl_Weights ?kty_Weights ?nb_Weights ?nl_Weights ?nf_Weights_page ?nf_Weights_marks ?nf_Weights_links ?nf_Weights_templates ?a0 ?l0 ?c0 ?k0 ?a1 ?l1 ?c1 ?k1 ?a2 ?l2 ?c2 ?k2 ?a3 ?l3 ?c3 ?k3 ?a4 ?l4 ?c4 ?k4 ?a5 ?l5 ?c5 ?k5 ?a6 ?i6 ?l6 ?c6 ?k6 ?kw0 ?kw1 ?kt1 ?kw2 ?kt2 ?kw3 ?kt3 ?a7 ?i7 ?l7 ?c7 ?k7 ?a8 ?i8 ?l8 ?c8 ?k8 ?a9 ?l9 ?c9 ?k9 ?a10 ?l10 ?c10 ?k10 ?a11 ?l11 ?c11 ?k11 ?a12 ?l12 ?c12 ?k12 ?a13 ?l13 ?c13 ?k13 ?a14 ?l14 ?c14 ?k14 ?a15 ?l15 ?c15 ?k15 ?a16 ?l16 ?c16 ?k16 ?a17 ?l17 ?c17 ?k17 ?a18 ?l18 ?c18 ?k18 ?a19 ?l19 ?c19 ?k19 ?a20 ?l20 ?c20 ?k20 ?a21 ?l21 ?c21 ?k21 ?a22 ?l22 ?c22 ?k22 ?a23 ?l23 ?c23 ?k23 ?z0 ?z1 ?z2 ?z3 ?z4 ?z5 ?z6 ?z7 ?z8 ?z9 ?z10 ?z11 ?z12 ?z13 ?z14 ?z15 ?z16 ?qq0 ?qq1 ?qq2 ?qq3
    (case hn => k_is)
    (case htk => k_is)
    (case aC_Weights => k_is)
    (case pg_Weights => k_is)
    (case hd_Weights => k_is)
    (case po_Weights => k_is)
    (case sa_Weights => k_is)
    (case mk_Weights => k_is)
    (case kc_Weights => k_is)
    (case ha_Weights => k_is)
    (case hm_Weights => k_is)
    (case hmt_Weights => k_is)
    (case hN_Weights => k_is)
    (case hi_Weights => k_is)
    (case hb_Weights => k_is)
    (case hs_Weights => k_is)
    (case ne_Weights => k_is)
    (case kcl_Weights => k_is)
    (case kty_Weights => k_is)
    (case nb_Weights => k_is)
    (case nl_Weights => k_is)
    (case nf_Weights_page => k_is)
    (case nf_Weights_marks => k_is)
    (case nf_Weights_links => k_is)
    (case nf_Weights_templates => k_is)
    (case a0 => k_is)
    (case l0 => k_is)
    (case c0 => k_is)
    (case k0 => k_is)
    (case a1 => k_is)
    (case l1 => k_is)
    (case c1 => k_is)
    (case k1 => k_is)
    (case a2 => k_is)
    (case l2 => k_is)
    (case c2 => k_is)
    (case k2 => k_is)
    (case a3 => k_is)
    (case l3 => k_is)
    (case c3 => k_is)
    (case k3 => k_is)
    (case a4 => k_is)
    (case l4 => k_is)
    (case c4 => k_is)
    (case k4 => k_is)
    (case a5 => k_is)
    (case l5 => k_is)
    (case c5 => k_is)
    (case k5 => k_is)
    (case a6 => k_is)
    (case i6 => k_is)
    (case l6 => k_is)
    (case c6 => k_is)
    (case k6 => k_is)
    (case kw0 => k_is)
    (case kw1 => k_is)
    (case kt1 => k_is)
    (case kw2 => k_is)
    (case kt2 => k_is)
    (case kw3 => k_is)
    (case kt3 => k_is)
    (case a7 => k_is)
    (case i7 => k_is)
    (case l7 => k_is)
    (case c7 => k_is)
    (case k7 => k_is)
    (case a8 => k_is)
    (case i8 => k_is)
    (case l8 => k_is)
    (case c8 => k_is)
    (case k8 => k_is)
    (case a9 => k_is)
    (case l9 => k_is)
    (case c9 => k_is)
    (case k9 => k_is)
    (case a10 => k_is)
    (case l10 => k_is)
    (case c10 => k_is)
    (case k10 => k_is)
    (case a11 => k_is)
    (case l11 => k_is)
    (case c11 => k_is)
    (case k11 => k_is)
    (case a12 => k_is)
    (case l12 => k_is)
    (case c12 => k_is)
    (case k12 => k_is)
    (case a13 => k_is)
    (case l13 => k_is)
    (case c13 => k_is)
    (case k13 => k_is)
    (case a14 => k_is)
    (case l14 => k_is)
    (case c14 => k_is)
    (case k14 => k_is)
    (case a15 => k_is)
    (case l15 => k_is)
    (case c15 => k_is)
    (case k15 => k_is)
    (case a16 => k_is)
    (case l16 => k_is)
    (case c16 => k_is)
    (case k16 => k_is)
    (case a17 => k_is)
    (case l17 => k_is)
    (case c17 => k_is)
    (case k17 => k_is)
    (case a18 => k_is)
    (case l18 => k_is)
    (case c18 => k_is)
    (case k18 => k_is)
    (case a19 => k_is)
    (case l19 => k_is)
    (case c19 => k_is)
    (case k19 => k_is)
    (case a20 => k_is)
    (case l20 => k_is)
    (case c20 => k_is)
    (case k20 => k_is)
    (case a21 => k_is)
    (case l21 => k_is)
    (case c21 => k_is)
    (case k21 => k_is)
    (case a22 => k_is)
    (case l22 => k_is)
    (case c22 => k_is)
    (case k22 => k_is)
    (case a23 => k_is)
    (case l23 => k_is)
    (case c23 => k_is)
    (case k23 => k_is)
    (case z0 => k_is)
    (case z1 => k_is)
    (case z2 => k_is)
    (case z3 => k_is)
    (case z4 => k_is)
    (case z5 => k_is)
    (case z6 => k_is)
    (case z7 => k_is)
    (case z8 => k_is)
    (case z9 => k_is)
    (case z10 => k_is)
    (case z11 => k_is)
    (case z12 => k_is)
    (case z13 => k_is)
    (case z14 => k_is)
    (case z15 => k_is)
    (case z16 => k_is)
    (case qq0 => k_is)
    (case qq1 => k_is)
    (case qq2 => k_is)
    (case qq3 => k_is)
#print axioms PySem.Challenge.cw_everysite_k31_weights_made_holds

