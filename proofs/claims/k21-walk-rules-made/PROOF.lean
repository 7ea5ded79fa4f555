import PyProof.Rows.All
import Wide.All
import OpenK.AllK
import Wide.FinOn
import HandS.ForMost
import HandS.IsInst
import HandS.Wide
import HandS.Deep
import HandS.Walk
import HandS.Evl
import PyProof.ReprRoads
import HandS.Codes
import HandS.TupAny
import HandS.Conv
import HandS.Style
import KE.GoesEnum
import KE.SortData
import HandS.WideBits
import HandS.RevTup
import HandS.OwnEq
import HandS.MakeKwOnly
import HandS.Defaults
import HandS.Star
import HandS.ClsMeth
import HandS.FStr
import KE.KCallOwn
import KE.DataEq
import HandS.TupSets
import HandS.SetFor
import HandS.CallLocal
import HandS.ExcValue
import OpenK.KMeth
import PySem.Challenge.RW_everysite_k21_walk_rules_made
set_option Elab.async false
set_option linter.all false
set_option maxRecDepth 100000
set_option maxHeartbeats 2000000
namespace Pd
open PySem PySem.Spec PyProof.Rows L2

/-! ### data, and which value of the heap is which datum -/
inductive Dt where
  | non
  | bl (b : Bool)
  | int (i : Int)
  | str (x : Str)
  | tup (ds : List Dt)
  | lst (ds : List Dt)
  | scr (ns : List Int)
  | dct (kvs : List (Key × V))
  | raw (v : V)
  | obj (C : Addr) (fs : List (Str × Dt))

mutual
inductive Dr (K : PySem.W.Frag) (G : Hp) : V → Dt → Prop
  | non : Dr K G .non .non
  | bl (b : Bool) : Dr K G (.bl b) (.bl b)
  | int (i : Int) : Dr K G (.int i) (.int i)
  | str (x : Str) : Dr K G (.str x) (.str x)
  | tup {a : Addr} {xs : List V} {ds : List Dt} : SqT K G a xs → DrAll K G xs ds → Dr K G (.ref a) (.tup ds)
  | lst {a : Addr} {xs : List V} {ds : List Dt} : G a = some (.lst xs) → DrAll K G xs ds → Dr K G (.ref a) (.lst ds)
  | scr {a : Addr} {ns : List Int} : SqL K G a (ns.map V.int) → Dr K G (.ref a) (.scr ns)
  | dct {a : Addr} {kvs : List (Key × V)} : G a = some (.dK kvs) → Dr K G (.ref a) (.dct kvs)
  | raw (v : V) : Dr K G v (.raw v)
  | obj {a C dx : Addr} {fs : List (Str × V)} {fds : List (Str × Dt)} : G a = some (.ins C dx fs) → G dx = some (.own a) → DrFs K G fs fds → Dr K G (.ref a) (.obj C fds)
inductive DrAll (K : PySem.W.Frag) (G : Hp) : List V → List Dt → Prop
  | nil : DrAll K G [] []
  | cons {v : V} {vs : List V} {d : Dt} {ds : List Dt} : Dr K G v d → DrAll K G vs ds → DrAll K G (v :: vs) (d :: ds)
inductive DrFs (K : PySem.W.Frag) (G : Hp) : List (Str × V) → List (Str × Dt) → Prop
  | nil : DrFs K G [] []
  | cons {f : Str} {v : V} {d : Dt} {fs : List (Str × V)} {ds : List (Str × Dt)} : Dr K G v d → DrFs K G fs ds → DrFs K G ((f, v) :: fs) ((f, d) :: ds)
end

section
variable {K : PySem.W.Frag} {G G' H : Hp}
theorem sqT_mono {a : Addr} {xs : List V} (e : Same G G') (h : SqT K G a xs) : SqT K G' a xs := by
  rcases h with (h | ⟨o, h⟩) | h
  · exact .inl (.inl (e _ _ h))
  · exact .inl (.inr ⟨o, e _ _ h⟩)
  · exact .inr h
mutual
theorem Dr.mono (e : Same G G') : ∀ {v : V} {d : Dt}, Dr K G v d → Dr K G' v d
  | _, _, .non => .non
  | _, _, .bl b => .bl b
  | _, _, .int i => .int i
  | _, _, .str x => .str x
  | _, _, .tup h t => .tup (sqT_mono e h) (DrAll.mono e t)
  | _, _, .lst h t => .lst (e _ _ h) (DrAll.mono e t)
  | _, _, .scr h => .scr (e.seq h)
  | _, _, .dct h => .dct (e _ _ h)
  | _, _, .raw v => .raw v
  | _, _, .obj h1 h2 t => .obj (e _ _ h1) (e _ _ h2) (DrFs.mono e t)
theorem DrAll.mono (e : Same G G') : ∀ {vs : List V} {ds : List Dt}, DrAll K G vs ds → DrAll K G' vs ds
  | _, _, .nil => .nil
  | _, _, .cons h t => .cons (Dr.mono e h) (DrAll.mono e t)
theorem DrFs.mono (e : Same G G') : ∀ {fs : List (Str × V)} {ds : List (Str × Dt)}, DrFs K G fs ds → DrFs K G' fs ds
  | _, _, .nil => .nil
  | _, _, .cons h t => .cons (Dr.mono e h) (DrFs.mono e t)
end
theorem DrAll.length : ∀ {vs : List V} {ds : List Dt}, DrAll K G vs ds → vs.length = ds.length
  | _, _, .nil => rfl
  | _, _, .cons _ t => by rw [List.length_cons, List.length_cons, DrAll.length t]
theorem DrAll.get : ∀ {vs : List V} {ds : List Dt} {i : Nat} {v : V}, DrAll K G vs ds → vs[i]? = some v → ∃ d, ds[i]? = some d ∧ Dr K G v d
  | _, _, _, _, .nil, e => by simp at e
  | _, _, 0, _, .cons r _, e => by simp at e; subst e; exact ⟨_, rfl, r⟩
  | _, _, i + 1, v, .cons _ t, e => by
    obtain ⟨u, h1, h2⟩ := DrAll.get (i := i) (v := v) t (by simpa using e)
    exact ⟨u, by simpa using h1, h2⟩
theorem DrAll.getD : ∀ {vs : List V} {ds : List Dt} {i : Nat} {d : Dt}, DrAll K G vs ds → ds[i]? = some d → ∃ v, vs[i]? = some v ∧ Dr K G v d
  | _, _, _, _, .nil, e => by simp at e
  | _, _, 0, _, .cons r _, e => by simp at e; subst e; exact ⟨_, rfl, r⟩
  | _, _, i + 1, v, .cons _ t, e => by
    obtain ⟨u, h1, h2⟩ := DrAll.getD (i := i) (d := v) t (by simpa using e)
    exact ⟨u, by simpa using h1, h2⟩
theorem DrAll.append : ∀ {xs ys : List V} {ds es : List Dt}, DrAll K G xs ds → DrAll K G ys es → DrAll K G (xs ++ ys) (ds ++ es)
  | _, _, _, _, .nil, s => s
  | _, _, _, _, .cons r t, s => .cons r (DrAll.append t s)
theorem DrAll.take : ∀ {xs : List V} {ds : List Dt} (n : Nat), DrAll K G xs ds → DrAll K G (xs.take n) (ds.take n)
  | _, _, 0, _ => .nil
  | _, _, _ + 1, .nil => .nil
  | _, _, n + 1, .cons r t => .cons r (DrAll.take n t)
theorem DrAll.drop : ∀ {xs : List V} {ds : List Dt} (n : Nat), DrAll K G xs ds → DrAll K G (xs.drop n) (ds.drop n)
  | _, _, 0, r => r
  | _, _, _ + 1, .nil => .nil
  | _, _, n + 1, .cons _ t => DrAll.drop n t
theorem DrAll.reverse {xs : List V} {ds : List Dt} (h : DrAll K G xs ds) : DrAll K G xs.reverse ds.reverse := by
  induction xs generalizing ds with
  | nil => cases h; exact .nil
  | cons x xs ih =>
    cases h with
    | cons r t =>
      rw [List.reverse_cons, List.reverse_cons]
      exact (ih t).append (.cons r .nil)
theorem DrAll.set {v : V} {d : Dt} (r : Dr K G v d) : ∀ {xs : List V} {ds : List Dt} (i : Nat), DrAll K G xs ds → DrAll K G (xs.set i v) (ds.set i d)
  | _, _, _, .nil => .nil
  | _, _, 0, .cons _ t => .cons r t
  | _, _, i + 1, .cons q t => .cons q (DrAll.set r i t)
theorem DrAll.replicate {xs : List V} {ds : List Dt} (h : DrAll K G xs ds) : ∀ n : Nat, DrAll K G (List.replicate n xs).flatten (List.replicate n ds).flatten
  | 0 => .nil
  | n + 1 => by
    rw [List.replicate_succ, List.replicate_succ, List.flatten_cons, List.flatten_cons]
    exact h.append (DrAll.replicate h n)
theorem DrFs.look {f : Str} {d : Dt} : ∀ {fs : List (Str × V)} {ds : List (Str × Dt)}, DrFs K G fs ds → ds.lookup f = some d → ∃ v, fs.lookup f = some v ∧ Dr K G v d
  | _, _, .nil, e => by simp at e
  | _, _, .cons (f := g) h t, e => by
    by_cases q : (f == g) = true
    · simp only [List.lookup, q] at e ⊢
      exact ⟨_, rfl, Option.some.inj e ▸ h⟩
    · have q' : (f == g) = false := by simpa using q
      simp only [List.lookup, q'] at e ⊢
      exact DrFs.look t e
theorem DrFs.lookN {f : Str} : ∀ {fs : List (Str × V)} {ds : List (Str × Dt)}, DrFs K G fs ds → ds.lookup f = none → fs.lookup f = none
  | _, _, .nil, e => by simp
  | _, _, .cons (f := g) h t, e => by
    by_cases q : (f == g) = true
    · simp only [List.lookup, q] at e
      cases e
    · have q' : (f == g) = false := by simpa using q
      simp only [List.lookup, q'] at e ⊢
      exact DrFs.lookN t e
end

/-! ### plain data -/
mutual
def toPy : Dt → Option PyData
  | .non => some .none
  | .bl b => some (.bool b)
  | .int i => some (.int i)
  | .str x => some (.str x)
  | .tup ds => (toPys ds).map PyData.tuple
  | .lst ds => (toPys ds).map PyData.list
  | .scr _ => none
  | .dct _ => none
  | .raw _ => none
  | .obj _ _ => none
def toPys : List Dt → Option (List PyData)
  | [] => some []
  | d :: r => match toPy d, toPys r with
    | some x, some xs => some (x :: xs)
    | _, _ => none
end
section
variable {K : PySem.W.Frag} {G : Hp}
mutual
theorem Dr.dp : ∀ {v : V} {d : Dt} {p : PyData}, Dr K G v d → toPy d = some p → Dp K G v p
  | _, _, _, .non, e => by simp only [toPy, Option.some.injEq] at e; subst e; exact .non
  | _, _, _, .bl b, e => by simp only [toPy, Option.some.injEq] at e; subst e; exact .bl b
  | _, _, _, .int i, e => by simp only [toPy, Option.some.injEq] at e; subst e; exact .int i
  | _, _, _, .str x, e => by simp only [toPy, Option.some.injEq] at e; subst e; exact .str x
  | _, _, _, .tup (ds := ds) h t, e => by
    simp only [toPy] at e
    cases q : toPys ds with
    | none => rw [q] at e; cases e
    | some ps =>
      rw [q] at e
      simp only [Option.map_some, Option.some.injEq] at e
      subst e
      exact .tup h (DrAll.dp t q)
  | _, _, _, .lst (ds := ds) h t, e => by
    simp only [toPy] at e
    cases q : toPys ds with
    | none => rw [q] at e; cases e
    | some ps =>
      rw [q] at e
      simp only [Option.map_some, Option.some.injEq] at e
      subst e
      exact .lst (SqL.of h) (DrAll.dp t q)
  | _, _, _, .scr _, e => by simp only [toPy] at e; cases e
  | _, _, _, .dct _, e => by simp only [toPy] at e; cases e
  | _, _, _, .raw v, e => by simp only [toPy] at e; cases e
  | _, _, _, .obj _ _ _, e => by simp only [toPy] at e; cases e
theorem DrAll.dp : ∀ {vs : List V} {ds : List Dt} {ps : List PyData}, DrAll K G vs ds → toPys ds = some ps → DpAll K G vs ps
  | _, _, _, .nil, e => by simp only [toPys, Option.some.injEq] at e; subst e; exact .nil
  | _, _, _, .cons (d := d) (ds := ds) h t, e => by
    simp only [toPys] at e
    cases q : toPy d with
    | none => rw [q] at e; cases e
    | some p =>
      cases q2 : toPys ds with
      | none => rw [q, q2] at e; cases e
      | some ps =>
        rw [q, q2] at e
        simp only [Option.some.injEq] at e
        subst e
        exact .cons (Dr.dp h q) (DrAll.dp t q2)
end
end

/-! ### the world of a def's run: the one object M that may change (its content keeps J); G, the part of the heap that never changes -/
structure Wo where
  K : PySem.W.Frag
  M : Option Addr
  J : HO → Prop
structure Good (W : Wo) (G H : Hp) : Prop where
  sub : Same G H
  st : ∀ a, W.M = some a → G a = none ∧ ∃ o, H a = some o ∧ W.J o
structure Fr (W : Wo) (G H G' H' : Hp) : Prop where
  g : Same G G'
  o : ∀ b u, H b = some u → G b = none → G' b = none ∧ (W.M ≠ some b → H' b = some u)
section
variable {W : Wo} {G H G1 H1 G2 H2 : Hp} {p : Addr} {o : HO}
theorem Fr.refl (W : Wo) (G H : Hp) : Fr W G H G H := ⟨Same.refl G, fun _ _ h g => ⟨g, fun _ => h⟩⟩
theorem Fr.trans (a : Fr W G H G1 H1) (b : Fr W G1 H1 G2 H2) (gd : Good W G2 H2) : Fr W G H G2 H2 :=
  ⟨a.g.trans b.g, fun c u h g => by
    obtain ⟨h1, h2⟩ := a.o c u h g
    by_cases hm : W.M = some c
    · exact ⟨(gd.st c hm).1, fun q => absurd hm q⟩
    · obtain ⟨h3, h4⟩ := b.o c u (h2 hm) h1
      exact ⟨h3, h4⟩⟩
theorem same_new (h : G p = none) : Same G (upd G p o) := fun b u e => by
  rw [upd_ne (ne_of_none e h)]
  exact e
theorem Good.nm (gd : Good W G H) (h : H p = none) : W.M ≠ some p := fun e => by
  obtain ⟨_, u, h1, _⟩ := gd.st p e
  rw [h] at h1
  cases h1
theorem Good.gn (gd : Good W G H) (h : H p = none) : G p = none := gd.sub.free h
theorem same_upd2 (e : Same G H) (h : G p = none) : Same (upd G p o) (upd H p o) := fun b u q => by
  by_cases hb : b = p
  · subst hb
    rw [upd_same] at q ⊢
    exact q
  · rw [upd_ne hb] at q ⊢
    exact e b u q
/-- a new object that never changes -/
theorem Fr.new (gd : Good W G H) (h : H p = none) : Fr W G H (upd G p o) (upd H p o) :=
  ⟨same_new (gd.gn h), fun b u e g => by
    have hb : b ≠ p := ne_of_none e h
    rw [upd_ne hb, upd_ne hb]
    exact ⟨g, fun _ => e⟩⟩
theorem Good.new (gd : Good W G H) (h : H p = none) : Good W (upd G p o) (upd H p o) :=
  ⟨same_upd2 gd.sub (gd.gn h), fun a e => by
    obtain ⟨h1, u, h2, h3⟩ := gd.st a e
    have hb : a ≠ p := ne_of_none h2 h
    rw [upd_ne hb, upd_ne hb]
    exact ⟨h1, u, h2, h3⟩⟩
/-- a new object that may change -/
theorem Fr.newM (gd : Good W G H) (h : H p = none) : Fr W G H G (upd H p o) :=
  ⟨Same.refl G, fun b u e g => by
    rw [upd_ne (ne_of_none e h)]
    exact ⟨g, fun _ => e⟩⟩
theorem Good.setM (gd : Good W G H) (h : G p = none) (hm : W.M ≠ some p) : Good W G (upd H p o) :=
  ⟨fun b u e => by
    rw [upd_ne (ne_of_none e h)]
    exact gd.sub b u e, fun a e => by
    obtain ⟨h1, u, h2, h3⟩ := gd.st a e
    have hb : a ≠ p := fun q => hm (q ▸ e)
    rw [upd_ne hb]
    exact ⟨h1, u, h2, h3⟩⟩
end

/-! ### what the names hold -/
/-- self in its __init__: its address, its dict's, its class -/
structure Sf where
  a : Addr
  dx : Addr
  C : Addr
inductive Sl where
  | un
  | dat (d : Dt)
  | mu (ds : List Dt)
  | slf (C : Sf) (fs : List (Str × Dt))
def Sl.own : Sl → Bool
  | .mu _ => true
  | .slf _ _ => true
  | _ => false
structure EnvOk (W : Wo) (H0 G H : Hp) (σ : L2.St) (δ : List Sl) : Prop where
  len : σ.length = δ.length
  dat : ∀ (i : Nat) (d : Dt), δ[i]? = some (.dat d) → ∃ v, σ[i]? = some (some v) ∧ Dr W.K G v d
  mu : ∀ (i : Nat) (ds : List Dt), δ[i]? = some (.mu ds) → ∃ (a : Addr) (xs : List V), σ[i]? = some (some (.ref a)) ∧ H a = some (.lst xs) ∧ G a = none ∧ H0 a = none ∧ W.M ≠ some a ∧ DrAll W.K G xs ds
  slf : ∀ (i : Nat) (C : Sf) (fds : List (Str × Dt)), δ[i]? = some (.slf C fds) → ∃ (a dx : Addr) (fs : List (Str × V)), σ[i]? = some (some (.ref a)) ∧ H a = some (.ins C.C dx fs) ∧ H dx = some (.own a) ∧ G a = none ∧ G dx = none ∧ H0 a = none ∧ (H0 dx = none ∧ a = C.a ∧ dx = C.dx) ∧ W.M ≠ some a ∧ W.M ≠ some dx ∧ DrFs W.K G fs fds
  sep : ∀ (i j : Nat) (a : Addr) (s t : Sl), i ≠ j → δ[i]? = some s → δ[j]? = some t → s.own = true → t.own = true → σ[i]? = some (some (.ref a)) → σ[j]? ≠ some (some (.ref a))
structure Cn where
  W : Wo
  G0 : Hp
  H0 : Hp
  E : XK
  X : Addr → Option (List (Str × Dt)) → Prop
  hE : ∀ (C : Addr) (d : Option Addr) (fds : Option (List (Str × Dt))) (G H : Hp), Fr W G0 H0 G H → Good W G H →
    (match d, fds with | none, none => True | some a, some l => G a = none ∧ H0 a = none ∧ ∃ fs, H a = some (.xd fs) ∧ DrFs W.K G fs l | _, _ => False) → X C fds → E (.ref C) d H
structure At (Γ : Cn) (δ : List Sl) (G H : Hp) (σ : L2.St) : Prop where
  fr : Fr Γ.W Γ.G0 Γ.H0 G H
  gd : Good Γ.W G H
  env : EnvOk Γ.W Γ.H0 G H σ δ
section
variable {W : Wo} {H0 G H G' H' : Hp} {σ : L2.St} {δ : List Sl} {Γ : Cn}
theorem EnvOk.step (e : EnvOk W H0 G H σ δ) (f : Fr W G H G' H') : EnvOk W H0 G' H' σ δ where
  len := e.len
  dat := fun i d h => by
    obtain ⟨v, h1, h2⟩ := e.dat i d h
    exact ⟨v, h1, h2.mono f.g⟩
  mu := fun i ds h => by
    obtain ⟨a, xs, h1, h2, h3, h4, h5, h6⟩ := e.mu i ds h
    obtain ⟨k1, k2⟩ := f.o a _ h2 h3
    exact ⟨a, xs, h1, k2 h5, k1, h4, h5, h6.mono f.g⟩
  slf := fun i C fds h => by
    obtain ⟨a, dx, fs, h1, h2, h3, h4, h5, h6, h7, h8, h9, h10⟩ := e.slf i C fds h
    obtain ⟨k1, k2⟩ := f.o a _ h2 h4
    obtain ⟨k3, k4⟩ := f.o dx _ h3 h5
    exact ⟨a, dx, fs, h1, k2 h8, k4 h9, k1, k3, h6, h7, h8, h9, h10.mono f.g⟩
  sep := e.sep
theorem At.step (a : At Γ δ G H σ) (f : Fr Γ.W G H G' H') (g : Good Γ.W G' H') : At Γ δ G' H' σ :=
  ⟨a.fr.trans f g, g, a.env.step f⟩
theorem At.h0 (a : At Γ δ G H σ) {p : Addr} (h : H p = none) : Γ.H0 p = none := by
  cases q : Γ.H0 p with
  | none => rfl
  | some u =>
    exfalso
    cases q2 : Γ.G0 p with
    | none =>
      have := (a.fr.o p u q q2).2 (a.gd.nm h)
      rw [h] at this
      cases this
    | some u2 =>
      have := a.gd.sub p u2 (a.fr.g p u2 q2)
      rw [h] at this
      cases this
theorem set_get {α : Type} {l : List α} {i j : Nat} {x : α} : (l.set i x)[j]? = if i = j then (if i < l.length then some x else none) else l[j]? := by
  rw [List.getElem?_set]
theorem EnvOk.set (e : EnvOk W H0 G H σ δ) {i : Nat} {v : V} {d : Dt} (h : Dr W.K G v d) : EnvOk W H0 G H (σ.set i (some v)) (δ.set i (.dat d)) where
  len := by rw [List.length_set, List.length_set]; exact e.len
  dat := fun j d' hj => by
    rw [set_get] at hj ⊢
    by_cases q : i = j
    · rw [if_pos q] at hj ⊢
      by_cases q2 : i < δ.length
      · rw [if_pos q2] at hj
        rw [if_pos (by rw [e.len]; exact q2)]
        cases hj
        exact ⟨v, rfl, h⟩
      · rw [if_neg q2] at hj
        cases hj
    · rw [if_neg q] at hj ⊢
      exact e.dat j d' hj
  mu := fun j ds hj => by
    rw [set_get] at hj ⊢
    by_cases q : i = j
    · rw [if_pos q] at hj
      split at hj <;> cases hj
    · rw [if_neg q] at hj ⊢
      exact e.mu j ds hj
  slf := fun j C fds hj => by
    rw [set_get] at hj ⊢
    by_cases q : i = j
    · rw [if_pos q] at hj
      split at hj <;> cases hj
    · rw [if_neg q] at hj ⊢
      exact e.slf j C fds hj
  sep := fun j k a s t hjk hj hk so to h1 => by
    rw [set_get] at hj hk h1 ⊢
    by_cases q : i = j
    · rw [if_pos q] at hj
      split at hj
      · cases hj; cases so
      · cases hj
    · by_cases q2 : i = k
      · rw [if_pos q2] at hk
        split at hk
        · cases hk; cases to
        · cases hk
      · rw [if_neg q] at hj h1
        rw [if_neg q2] at hk ⊢
        exact e.sep j k a s t hjk hj hk so to h1
end

/-! ### the judgements over data -/
/-- what may be read: a datum that never changes, or an own list as it stands -/
def Dv (W : Wo) (G H : Hp) (v : V) (d : Dt) : Prop := Dr W.K G v d ∨ ∃ a xs ds, v = .ref a ∧ d = .lst ds ∧ H a = some (.lst xs) ∧ G a = none ∧ W.M ≠ some a ∧ DrAll W.K G xs ds
inductive DvAll (W : Wo) (G H : Hp) : List V → List Dt → Prop
  | nil : DvAll W G H [] []
  | cons {v : V} {vs : List V} {d : Dt} {ds : List Dt} : Dv W G H v d → DvAll W G H vs ds → DvAll W G H (v :: vs) (d :: ds)
section
variable {W : Wo} {G H G' H' : Hp} {v : V} {d : Dt}
theorem Dv.step (h : Dv W G H v d) (f : Fr W G H G' H') : Dv W G' H' v d := by
  rcases h with h | ⟨a, xs, ds, h1, h2, h3, h4, h5, h6⟩
  · exact .inl (h.mono f.g)
  · obtain ⟨k1, k2⟩ := f.o a _ h3 h4
    exact .inr ⟨a, xs, ds, h1, h2, k2 h5, k1, h5, h6.mono f.g⟩
theorem Dv.dr (h : Dv W G H v d) (g : Good W G H) : Dr W.K H v d := by
  rcases h with h | ⟨a, xs, ds, h1, h2, h3, h4, h5, h6⟩
  · exact h.mono g.sub
  · subst h1 h2
    exact .lst h3 (h6.mono g.sub)
theorem DvAll.step : ∀ {vs : List V} {ds : List Dt}, DvAll W G H vs ds → Fr W G H G' H' → DvAll W G' H' vs ds
  | _, _, .nil, _ => .nil
  | _, _, .cons h t, f => .cons (h.step f) (DvAll.step t f)
theorem DvAll.of : ∀ {vs : List V} {ds : List Dt}, DrAll W.K G vs ds → DvAll W G H vs ds
  | _, _, .nil => .nil
  | _, _, .cons h t => .cons (.inl h) (DvAll.of t)
theorem Dv.int {i : Int} (h : Dv W G H v (.int i)) : v = .int i := by
  rcases h with h | ⟨a, xs, ds, h1, h2, _⟩
  · cases h; rfl
  · cases h2
theorem Dv.str {x : Str} (h : Dv W G H v (.str x)) : v = .str x := by
  rcases h with h | ⟨a, xs, ds, h1, h2, _⟩
  · cases h; rfl
  · cases h2
theorem Dv.bl {b : Bool} (h : Dv W G H v (.bl b)) : v = .bl b := by
  rcases h with h | ⟨a, xs, ds, h1, h2, _⟩
  · cases h; rfl
  · cases h2
theorem Dv.non (h : Dv W G H v .non) : v = .non := by
  rcases h with h | ⟨a, xs, ds, h1, h2, _⟩
  · cases h; rfl
  · cases h2
theorem Dv.raw {u : V} (h : Dv W G H v (.raw u)) : v = u := by
  rcases h with h | ⟨a, xs, ds, h1, h2, _⟩
  · cases h; rfl
  · cases h2
theorem Dv.tup {ds : List Dt} (h : Dv W G H v (.tup ds)) : ∃ a xs, v = .ref a ∧ SqT W.K G a xs ∧ DrAll W.K G xs ds := by
  rcases h with h | ⟨a, xs, ds, h1, h2, _⟩
  · cases h with | tup h1 h2 => exact ⟨_, _, rfl, h1, h2⟩
  · cases h2
theorem Dv.lst {ds : List Dt} (h : Dv W G H v (.lst ds)) (g : Good W G H) : ∃ a xs, v = .ref a ∧ H a = some (.lst xs) ∧ DrAll W.K G xs ds := by
  rcases h with h | ⟨a, xs, ds, h1, h2, h3, h4, h5, h6⟩
  · cases h with | lst h1 h2 => exact ⟨_, _, rfl, g.sub _ _ h1, h2⟩
  · cases h2
    exact ⟨a, xs, h1, h3, h6⟩
end

structure De where
  nx : List Sl → Prop
  rt : Dt → Prop
  bk : List Sl → Prop := fun _ => False
  ct : List Sl → Prop := fun _ => False
def ED (Γ : Cn) (te : TE) (δ : List Sl) (P : Dt → Prop) : Prop :=
  ∀ G H σ (Q : VK), At Γ δ G H σ → (∀ v d G' H', Fr Γ.W G H G' H' → Good Γ.W G' H' → Dr Γ.W.K G' v d → P d → Q v H') → te σ H Q
def RD (Γ : Cn) (te : TE) (δ : List Sl) (P : Dt → Prop) : Prop :=
  ∀ G H σ (Q : VK), At Γ δ G H σ → (∀ v d G' H', Fr Γ.W G H G' H' → Good Γ.W G' H' → Dv Γ.W G' H' v d → P d → Q v H') → te σ H Q
def NL (Γ : Cn) (te : TE) (δ : List Sl) (P : List Dt → Prop) : Prop :=
  ∀ G H σ (Q : VK), At Γ δ G H σ → (∀ a xs ds G' H', Fr Γ.W G H G' H' → Good Γ.W G' H' → H a = none → H' a = some (.lst xs) → G' a = none → DrAll Γ.W.K G' xs ds → P ds → Q (.ref a) H') → te σ H Q
def TD (Γ : Cn) (tt : TT) (δ : List Sl) (P : Bool → Prop) : Prop :=
  ∀ G H σ (Q : Bool → Hp → Prop), At Γ δ G H σ → (∀ b G' H', Fr Γ.W G H G' H' → Good Γ.W G' H' → P b → Q b H') → tt σ H Q
def AD (Γ : Cn) (ta : TA) (δ : List Sl) (P : List Dt → Prop) : Prop :=
  ∀ G H σ (Q : List V → Hp → Prop), At Γ δ G H σ → (∀ vs ds G' H', Fr Γ.W G H G' H' → Good Γ.W G' H' → DrAll Γ.W.K G' vs ds → P ds → Q vs H') → ta σ H Q
def RA (Γ : Cn) (ta : TA) (δ : List Sl) (P : List Dt → Prop) : Prop :=
  ∀ G H σ (Q : List V → Hp → Prop), At Γ δ G H σ → (∀ vs ds G' H', Fr Γ.W G H G' H' → Good Γ.W G' H' → DvAll Γ.W G' H' vs ds → P ds → Q vs H') → ta σ H Q
def SD (Γ : Cn) (ts : TS) (δ : List Sl) (D : De) : Prop :=
  ∀ G H σ (E : Ends), At Γ δ G H σ → (∀ δ' G' H' σ', Same G G' → At Γ δ' G' H' σ' → D.nx δ' → E.nx σ' H') →
    (∀ v d G' H', Fr Γ.W Γ.G0 Γ.H0 G' H' → Good Γ.W G' H' → Dr Γ.W.K G' v d → D.rt d → E.rt v H') →
    (∀ δ' G' H' σ', Same G G' → At Γ δ' G' H' σ' → D.bk δ' → E.bk σ' H') → (∀ δ' G' H' σ', Same G G' → At Γ δ' G' H' σ' → D.ct δ' → E.ct σ' H') → ts E σ H
/-- an operation on data -/
def OD (W : Wo) (r : R2) (x y : Dt) (P : Dt → Prop) : Prop :=
  ∀ G H v w (Q : VK), Good W G H → Dv W G H v x → Dv W G H w y → (∀ u d G' H', Fr W G H G' H' → Good W G' H' → Dr W.K G' u d → P d → Q u H') → r v w H Q
/-- a call on data -/
def CD (W : Wo) (r : List V → Hp → VK → Prop) (ds : List Dt) (P : Dt → Prop) : Prop :=
  ∀ G H vs (Q : VK), Good W G H → DvAll W G H vs ds → (∀ u d G' H', Fr W G H G' H' → Good W G' H' → Dr W.K G' u d → P d → Q u H') → r vs H Q

section
variable {Γ : Cn} {δ : List Sl} {te ta tb tc : TE} {P : Dt → Prop} {r r' : R2}
theorem ED.rd (h : ED Γ te δ P) : RD Γ te δ P := fun G H σ Q at_ k => h G H σ Q at_ fun v d G' H' f g r p => k v d G' H' f g (.inl r) p
theorem NL.ed (h : NL Γ te δ fun ds => P (.lst ds)) : ED Γ te δ P := fun G H σ Q at_ k => h G H σ Q at_ fun a xs ds G' H' f g ha h1 h2 r p => by
  have gd2 : Good Γ.W (upd G' a (.lst xs)) H' := ⟨fun b u e => by
    by_cases hb : b = a
    · subst hb
      rw [upd_same] at e
      rw [← e]
      exact h1
    · rw [upd_ne hb] at e
      exact g.sub b u e, fun b e => by
    obtain ⟨k1, u, k2, k3⟩ := g.st b e
    have hb : b ≠ a := fun q => at_.gd.nm ha (q ▸ e)
    rw [upd_ne hb]
    exact ⟨k1, u, k2, k3⟩⟩
  refine k (.ref a) (.lst ds) (upd G' a (.lst xs)) H' ⟨f.g.trans (same_new h2), fun b u e gb => ?_⟩ gd2 (.lst upd_same (r.mono (same_new h2))) p
  have hb : b ≠ a := ne_of_none e ha
  rw [upd_ne hb]
  exact f.o b u e gb
theorem ed_var {i : Nat} {d : Dt} (h : δ[i]? = some (.dat d)) (p : P d) : ED Γ (tVar i) δ P := fun G H σ Q at_ k => by
  obtain ⟨v, h1, h2⟩ := at_.env.dat i d h
  exact ⟨v, h1, k v d G H (Fr.refl _ _ _) at_.gd h2 p⟩
theorem rd_mut {i : Nat} {ds : List Dt} (h : δ[i]? = some (.mu ds)) (p : P (.lst ds)) : RD Γ (tVar i) δ P := fun G H σ Q at_ k => by
  obtain ⟨a, xs, h1, h2, h3, h4, h5, h6⟩ := at_.env.mu i ds h
  exact ⟨.ref a, h1, k _ _ G H (Fr.refl _ _ _) at_.gd (.inr ⟨a, xs, ds, rfl, rfl, h2, h3, h5, h6⟩) p⟩
theorem ed_c {v : V} {d : Dt} (h : ∀ G, Dr Γ.W.K G v d) (p : P d) : ED Γ (tC v) δ P := fun G H σ Q at_ k => k v d G H (Fr.refl _ _ _) at_.gd (h G) p
theorem ed_int {i : Int} (p : P (.int i)) : ED Γ (tC (.int i)) δ P := ed_c (fun _ => .int i) p
theorem ed_str {x : Str} (p : P (.str x)) : ED Γ (tC (.str x)) δ P := ed_c (fun _ => .str x) p
theorem ed_bl {b : Bool} (p : P (.bl b)) : ED Γ (tC (.bl b)) δ P := ed_c (fun _ => .bl b) p
theorem ed_non (p : P .non) : ED Γ (tC .non) δ P := ed_c (fun _ => .non) p
theorem ed_raw {v : V} (p : P (.raw v)) : ED Γ (tC v) δ P := ed_c (fun _ => .raw v) p
theorem ed_op (h : RD Γ ta δ fun x => RD Γ tb δ fun y => OD Γ.W r x y P) : ED Γ (tOp r ta tb) δ P := fun G H σ Q at_ k =>
  h G H σ _ at_ fun v x G1 H1 f1 g1 d1 p1 => p1 G1 H1 σ _ (at_.step f1 g1) fun w y G2 H2 f2 g2 d2 p2 =>
    p2 G2 H2 v w Q g2 (d1.step f2) d2 fun u d G3 H3 f3 g3 d3 p3 => k u d G3 H3 ((f1.trans f2 g2).trans f3 g3) g3 d3 p3
theorem ed_un {r : V → Hp → VK → Prop} (h : RD Γ ta δ fun x => CD Γ.W (fun vs H Q => ∃ v, vs = [v] ∧ r v H Q) [x] P) : ED Γ (tUn r ta) δ P := fun G H σ Q at_ k =>
  h G H σ _ at_ fun v x G1 H1 f1 g1 d1 p1 => by
    obtain ⟨v', e, q⟩ := p1 G1 H1 [v] Q g1 (.cons d1 .nil) fun u d G3 H3 f3 g3 d3 p3 => k u d G3 H3 (f1.trans f3 g3) g3 d3 p3
    cases e
    exact q
theorem ra_nil {P : List Dt → Prop} (p : P []) : RA Γ tNil δ P := fun G H σ Q at_ k => k [] [] G H (Fr.refl _ _ _) at_.gd .nil p
theorem ra_cons {tr : TA} {P : List Dt → Prop} (h : RD Γ ta δ fun x => RA Γ tr δ fun xs => P (x :: xs)) : RA Γ (tCons ta tr) δ P := fun G H σ Q at_ k =>
  h G H σ _ at_ fun v x G1 H1 f1 g1 d1 p1 => p1 G1 H1 σ _ (at_.step f1 g1) fun vs xs G2 H2 f2 g2 d2 p2 => k (v :: vs) (x :: xs) G2 H2 (f1.trans f2 g2) g2 (.cons (d1.step f2) d2) p2
theorem ad_nil {P : List Dt → Prop} (p : P []) : AD Γ tNil δ P := fun G H σ Q at_ k => k [] [] G H (Fr.refl _ _ _) at_.gd .nil p
theorem ad_cons {tr : TA} {P : List Dt → Prop} (h : ED Γ ta δ fun x => AD Γ tr δ fun xs => P (x :: xs)) : AD Γ (tCons ta tr) δ P := fun G H σ Q at_ k =>
  h G H σ _ at_ fun v x G1 H1 f1 g1 d1 p1 => p1 G1 H1 σ _ (at_.step f1 g1) fun vs xs G2 H2 f2 g2 d2 p2 => k (v :: vs) (x :: xs) G2 H2 (f1.trans f2 g2) g2 (.cons (d1.mono f2.g) d2) p2
theorem ed_cb {rc : List V → Hp → VK → Prop} {t : TA} (h : RA Γ t δ fun ds => CD Γ.W rc ds P) : ED Γ (tCB rc t) δ P := fun G H σ Q at_ k =>
  h G H σ _ at_ fun vs ds G1 H1 f1 g1 d1 p1 => p1 G1 H1 vs Q g1 d1 fun u d G3 H3 f3 g3 d3 p3 => k u d G3 H3 (f1.trans f3 g3) g3 d3 p3
theorem ed_tup {t : TA} (h : AD Γ t δ fun ds => ds.length ≤ 100000 ∧ P (.tup ds)) : ED Γ (tTup t) δ P := fun G H σ Q at_ k =>
  h G H σ _ at_ fun vs ds G1 H1 f1 g1 d1 ⟨hl, p1⟩ => ⟨by rw [d1.length]; exact Nat.le_trans hl (by decide), fun p hp =>
    k (.ref p) (.tup ds) (upd G1 p (.tup vs)) _ (f1.trans (Fr.new g1 hp) (g1.new hp)) (g1.new hp) (.tup (.inl (.inl upd_same)) (d1.mono (same_new (g1.gn hp)))) p1⟩
theorem nl_lst {t : TA} {P : List Dt → Prop} (h : AD Γ t δ fun ds => ds.length ≤ 100000 ∧ P ds) : NL Γ (tLst t) δ P := fun G H σ Q at_ k =>
  h G H σ _ at_ fun vs ds G1 H1 f1 g1 d1 ⟨hl, p1⟩ => ⟨by rw [d1.length]; exact Nat.le_trans hl (by decide), fun p hp => by
    have hH : H p = none := by
      cases q : H p with
      | none => rfl
      | some u =>
        exfalso
        cases q2 : G p with
        | none =>
          by_cases hm : Γ.W.M = some p
          · exact g1.nm hp hm
          · have := (f1.o p u q q2).2 hm
            rw [hp] at this
            cases this
        | some u2 =>
          have := g1.sub p u2 (f1.g p u2 q2)
          rw [hp] at this
          cases this
    exact k p vs ds G1 _ (f1.trans (Fr.newM g1 hp) (g1.setM (g1.gn hp) (g1.nm hp))) (g1.setM (g1.gn hp) (g1.nm hp)) hH upd_same (g1.gn hp) d1 p1⟩
theorem fr_back {W : Wo} {G H G1 H1 : Hp} (f : Fr W G H G1 H1) (g : Good W G1 H1) {p : Addr} (hp : H1 p = none) : H p = none := by
  cases q : H p with
  | none => rfl
  | some u =>
    exfalso
    cases q2 : G p with
    | none =>
      by_cases hm : W.M = some p
      · exact g.nm hp hm
      · have := (f.o p u q q2).2 hm
        rw [hp] at this
        cases this
    | some u2 =>
      have := g.sub p u2 (f.g p u2 q2)
      rw [hp] at this
      cases this
/-! tests -/
theorem td_B {P : Bool → Prop} (h : ED Γ te δ fun d => ∃ b, d = .bl b ∧ P b) : TD Γ (tB te) δ P := fun G H σ Q at_ k =>
  h G H σ _ at_ fun v d G1 H1 f1 g1 d1 ⟨b, e, p⟩ => by subst e; cases d1; exact ⟨b, rfl, k b G1 H1 f1 g1 p⟩
theorem td_test {P : Bool → Prop} (h : ED Γ te δ fun d => ∃ b, d = .bl b ∧ P b) : TD Γ (tTest te) δ P := fun G H σ Q at_ k =>
  h G H σ _ at_ fun v d G1 H1 f1 g1 d1 ⟨b, e, p⟩ => by subst e; cases d1; exact ⟨b, rfl, k b G1 H1 f1 g1 p⟩
theorem td_and {t u : TT} {P : Bool → Prop} (h : TD Γ t δ fun b => (b = true → TD Γ u δ P) ∧ (b = false → P false)) : TD Γ (tAnd t u) δ P := fun G H σ Q at_ k =>
  h G H σ _ at_ fun b G1 H1 f1 g1 ⟨p1, p2⟩ => by
    cases b with
    | true => exact p1 rfl G1 H1 σ Q (at_.step f1 g1) fun b G2 H2 f2 g2 p => k b G2 H2 (f1.trans f2 g2) g2 p
    | false => exact k false G1 H1 f1 g1 (p2 rfl)
theorem td_or {t u : TT} {P : Bool → Prop} (h : TD Γ t δ fun b => (b = true → P true) ∧ (b = false → TD Γ u δ P)) : TD Γ (tOr t u) δ P := fun G H σ Q at_ k =>
  h G H σ _ at_ fun b G1 H1 f1 g1 ⟨p1, p2⟩ => by
    cases b with
    | true => exact k true G1 H1 f1 g1 (p1 rfl)
    | false => exact p2 rfl G1 H1 σ Q (at_.step f1 g1) fun b G2 H2 f2 g2 p => k b G2 H2 (f1.trans f2 g2) g2 p
theorem td_not {t : TT} {P : Bool → Prop} (h : TD Γ t δ fun b => P (!b)) : TD Γ (tNot t) δ P := fun G H σ Q at_ k =>
  h G H σ _ at_ fun b G1 H1 f1 g1 p => k (!b) G1 H1 f1 g1 p
theorem ed_andV (h : ED Γ ta δ fun d => ∃ b, d = .bl b ∧ (b = true → ED Γ tb δ P) ∧ (b = false → P (.bl false))) : ED Γ (tAndV ta tb) δ P := fun G H σ Q at_ k =>
  h G H σ _ at_ fun v d G1 H1 f1 g1 d1 ⟨b, e, p1, p2⟩ => by
    subst e
    cases d1
    refine ⟨b, rfl, ?_⟩
    cases b with
    | true => exact p1 rfl G1 H1 σ Q (at_.step f1 g1) fun v d G2 H2 f2 g2 d2 p => k v d G2 H2 (f1.trans f2 g2) g2 d2 p
    | false => exact k _ _ G1 H1 f1 g1 (.bl false) (p2 rfl)
theorem ed_orV (h : ED Γ ta δ fun d => ∃ b, d = .bl b ∧ (b = true → P (.bl true)) ∧ (b = false → ED Γ tb δ P)) : ED Γ (tOrV ta tb) δ P := fun G H σ Q at_ k =>
  h G H σ _ at_ fun v d G1 H1 f1 g1 d1 ⟨b, e, p1, p2⟩ => by
    subst e
    cases d1
    refine ⟨b, rfl, ?_⟩
    cases b with
    | true => exact k _ _ G1 H1 f1 g1 (.bl true) (p1 rfl)
    | false => exact p2 rfl G1 H1 σ Q (at_.step f1 g1) fun v d G2 H2 f2 g2 d2 p => k v d G2 H2 (f1.trans f2 g2) g2 d2 p
theorem ed_notV (h : ED Γ ta δ fun d => ∃ b, d = .bl b ∧ P (.bl (!b))) : ED Γ (tNotV ta) δ P := fun G H σ Q at_ k =>
  h G H σ _ at_ fun v d G1 H1 f1 g1 d1 ⟨b, e, p1⟩ => by
    subst e
    cases d1
    exact ⟨b, rfl, k _ _ G1 H1 f1 g1 (.bl _) p1⟩
theorem ed_if {t : TT} (h : TD Γ t δ fun b => (b = true → ED Γ ta δ P) ∧ (b = false → ED Γ tb δ P)) : ED Γ (tIf t ta tb) δ P := fun G H σ Q at_ k =>
  h G H σ _ at_ fun b G1 H1 f1 g1 ⟨p1, p2⟩ => by
    cases b with
    | true => exact p1 rfl G1 H1 σ Q (at_.step f1 g1) fun v d G2 H2 f2 g2 d2 p => k v d G2 H2 (f1.trans f2 g2) g2 d2 p
    | false => exact p2 rfl G1 H1 σ Q (at_.step f1 g1) fun v d G2 H2 f2 g2 d2 p => k v d G2 H2 (f1.trans f2 g2) g2 d2 p
theorem ed_chain (h : RD Γ ta δ fun x => RD Γ tb δ fun y => OD Γ.W r x y fun z => ∃ b, z = .bl b ∧ (b = true → RD Γ tc δ fun w => OD Γ.W r' y w P) ∧ (b = false → P (.bl false))) : ED Γ (tChain r r' ta tb tc) δ P := fun G H σ Q at_ k =>
  h G H σ _ at_ fun v x G1 H1 f1 g1 d1 p1 => p1 G1 H1 σ _ (at_.step f1 g1) fun w y G2 H2 f2 g2 d2 p2 =>
    p2 G2 H2 v w _ g2 (d1.step f2) d2 fun u d G3 H3 f3 g3 d3 ⟨b, e, q1, q2⟩ => by
      subst e
      cases d3
      refine ⟨b, rfl, ?_⟩
      have f13 := (f1.trans f2 g2).trans f3 g3
      cases b with
      | true =>
        refine q1 rfl G3 H3 σ _ (at_.step f13 g3) fun w' z G4 H4 f4 g4 d4 p4 => ?_
        exact p4 G4 H4 w w' Q g4 ((d2.step f3).step f4) d4 fun u d G5 H5 f5 g5 d5 p5 => k u d G5 H5 ((f13.trans f4 g4).trans f5 g5) g5 d5 p5
      | false => exact k _ _ G3 H3 f13 g3 (.bl false) (q2 rfl)
/-! statements -/
variable {D : De} {ts tu : TS}
theorem sd_seq (h : SD Γ ts δ { D with nx := fun δ' => SD Γ tu δ' D }) : SD Γ (tSeq ts tu) δ D := fun G H σ E at_ hn hr hb hc =>
  h G H σ { E with nx := tu E } at_ (fun δ' G' H' σ' e a q => q G' H' σ' E a (fun δ2 G2 H2 σ2 e2 a2 q2 => hn δ2 G2 H2 σ2 (e.trans e2) a2 q2) hr
    (fun δ2 G2 H2 σ2 e2 a2 q2 => hb δ2 G2 H2 σ2 (e.trans e2) a2 q2) (fun δ2 G2 H2 σ2 e2 a2 q2 => hc δ2 G2 H2 σ2 (e.trans e2) a2 q2)) hr hb hc
theorem sd_next (h : D.nx δ) : SD Γ tNext δ D := fun G H σ E at_ hn hr hb hc => hn δ G H σ (Same.refl G) at_ h
theorem sd_break (h : D.bk δ) : SD Γ tBreak δ D := fun G H σ E at_ hn hr hb hc => hb δ G H σ (Same.refl G) at_ h
theorem sd_cont (h : D.ct δ) : SD Γ tCont δ D := fun G H σ E at_ hn hr hb hc => hc δ G H σ (Same.refl G) at_ h
theorem sd_never {δ : List Sl} (h : False) : SD Γ tNever δ D := h.elim
theorem sd_asg {i : Nat} (h : ED Γ te δ fun d => D.nx (δ.set i (.dat d))) : SD Γ (tAsg te (gName i)) δ D := fun G H σ E at_ hn hr hb hc =>
  h G H σ _ at_ fun v d G1 H1 f1 g1 d1 p1 => hn _ G1 H1 _ f1.g ⟨at_.fr.trans f1 g1, g1, (at_.env.step f1).set d1⟩ p1
theorem sd_drop (h : RD Γ te δ fun _ => D.nx δ) : SD Γ (tDrop te) δ D := fun G H σ E at_ hn hr hb hc =>
  h G H σ _ at_ fun v d G1 H1 f1 g1 d1 p1 => hn _ G1 H1 _ f1.g (at_.step f1 g1) p1
theorem sd_ret (h : ED Γ te δ D.rt) : SD Γ (tRet te) δ D := fun G H σ E at_ hn hr hb hc =>
  h G H σ _ at_ fun v d G1 H1 f1 g1 d1 p1 => hr v d G1 H1 (at_.fr.trans f1 g1) g1 d1 p1
theorem sd_retN (h : D.rt .non) : SD Γ tRetN δ D := fun G H σ E at_ hn hr hb hc => hr .non .non G H at_.fr at_.gd .non h
theorem sd_if {t : TT} (h : TD Γ t δ fun b => (b = true → SD Γ ts δ D) ∧ (b = false → SD Γ tu δ D)) : SD Γ (tIfS t ts tu) δ D := fun G H σ E at_ hn hr hb hc =>
  h G H σ _ at_ fun b G1 H1 f1 g1 ⟨p1, p2⟩ => by
    have a1 := at_.step f1 g1
    cases b with
    | true => exact p1 rfl G1 H1 σ E a1 (fun δ2 G2 H2 σ2 e2 a2 q2 => hn δ2 G2 H2 σ2 (f1.g.trans e2) a2 q2) hr (fun δ2 G2 H2 σ2 e2 a2 q2 => hb δ2 G2 H2 σ2 (f1.g.trans e2) a2 q2) (fun δ2 G2 H2 σ2 e2 a2 q2 => hc δ2 G2 H2 σ2 (f1.g.trans e2) a2 q2)
    | false => exact p2 rfl G1 H1 σ E a1 (fun δ2 G2 H2 σ2 e2 a2 q2 => hn δ2 G2 H2 σ2 (f1.g.trans e2) a2 q2) hr (fun δ2 G2 H2 σ2 e2 a2 q2 => hb δ2 G2 H2 σ2 (f1.g.trans e2) a2 q2) (fun δ2 G2 H2 σ2 e2 a2 q2 => hc δ2 G2 H2 σ2 (f1.g.trans e2) a2 q2)
end
end Pd

set_option Elab.async false
set_option linter.all false
set_option maxRecDepth 100000
set_option maxHeartbeats 2000000
namespace Pd
open PySem PySem.Spec PyProof.Rows L2

/-! ### wiped slots -/
theorem wipe_get (σ : L2.St) : ∀ (vs : List Nat) (i : Nat), (wipe σ vs)[i]? = if i ∈ vs then (σ[i]?).map (fun _ => none) else σ[i]?
  | [], i => by simp [wipe]
  | v :: vs, i => by
    unfold wipe
    rw [set_get, wipe_length, wipe_get σ vs i]
    by_cases h : v = i
    · subst h
      rw [if_pos rfl, if_pos List.mem_cons_self]
      by_cases h2 : v < σ.length
      · rw [if_pos h2, List.getElem?_eq_getElem h2]
        rfl
      · rw [if_neg h2, List.getElem?_eq_none (by omega)]
        rfl
    · rw [if_neg h]
      have : (i ∈ v :: vs) ↔ i ∈ vs := by
        rw [List.mem_cons]
        exact ⟨fun q => q.resolve_left (fun z => h z.symm), .inr⟩
      by_cases h3 : i ∈ vs
      · rw [if_pos h3, if_pos (this.mpr h3)]
      · rw [if_neg h3, if_neg (fun z => h3 (this.mp z))]
theorem wipe_wipe (σ : L2.St) (vs : List Nat) : wipe (wipe σ vs) vs = wipe σ vs := by
  apply List.ext_getElem?
  intro i
  rw [wipe_get, wipe_get]
  by_cases h : i ∈ vs
  · rw [if_pos h, if_pos h]
    cases σ[i]? <;> rfl
  · rw [if_neg h, if_neg h]
theorem wipe_set (σ : L2.St) {vs : List Nat} {j : Nat} (x : Option V) (hj : j ∈ vs) : wipe (σ.set j x) vs = wipe σ vs := by
  apply List.ext_getElem?
  intro i
  rw [wipe_get, wipe_get, set_get]
  by_cases h : i ∈ vs
  · rw [if_pos h, if_pos h]
    by_cases h2 : j = i
    · subst h2
      rw [if_pos rfl]
      by_cases h3 : j < σ.length
      · rw [if_pos h3, List.getElem?_eq_getElem h3]
        rfl
      · rw [if_neg h3, List.getElem?_eq_none (by omega)]
    · rw [if_neg h2]
  · rw [if_neg h, if_neg h]
    by_cases h2 : j = i
    · subst h2
      exact absurd hj h
    · rw [if_neg h2]
def wipeD (δ : List Sl) : List Nat → List Sl
  | [] => δ
  | v :: vs => (wipeD δ vs).set v .un
theorem wipeD_get (δ : List Sl) : ∀ (vs : List Nat) (i : Nat), (wipeD δ vs)[i]? = if i ∈ vs then (δ[i]?).map (fun _ => .un) else δ[i]?
  | [], i => by simp [wipeD]
  | v :: vs, i => by
    have hl : ∀ ws, (wipeD δ ws).length = δ.length := by
      intro ws
      induction ws with
      | nil => rfl
      | cons w ws ih => unfold wipeD; rw [List.length_set, ih]
    unfold wipeD
    rw [set_get, hl, wipeD_get δ vs i]
    by_cases h : v = i
    · subst h
      rw [if_pos rfl, if_pos List.mem_cons_self]
      by_cases h2 : v < δ.length
      · rw [if_pos h2, List.getElem?_eq_getElem h2]
        rfl
      · rw [if_neg h2, List.getElem?_eq_none (by omega)]
        rfl
    · rw [if_neg h]
      have : (i ∈ v :: vs) ↔ i ∈ vs := by
        rw [List.mem_cons]
        exact ⟨fun q => q.resolve_left (fun z => h z.symm), .inr⟩
      by_cases h3 : i ∈ vs
      · rw [if_pos h3, if_pos (this.mpr h3)]
      · rw [if_neg h3, if_neg (fun z => h3 (this.mp z))]
theorem wipeD_len (δ : List Sl) (ws : List Nat) : (wipeD δ ws).length = δ.length := by
  induction ws with
  | nil => rfl
  | cons w ws ih => unfold wipeD; rw [List.length_set, ih]
theorem wiped_at {δ : List Sl} {vs : List Nat} {i : Nat} {s : Sl} (h : (wipeD δ vs)[i]? = some s) (hs : s ≠ .un) : i ∉ vs ∧ δ[i]? = some s := by
  rw [wipeD_get] at h
  by_cases q : i ∈ vs
  · rw [if_pos q] at h
    cases z : δ[i]? with
    | none => rw [z] at h; cases h
    | some t =>
      rw [z] at h
      simp only [Option.map_some, Option.some.injEq] at h
      exact absurd h.symm hs
  · rw [if_neg q] at h
    exact ⟨q, h⟩
theorem EnvOk.wipe {W : Wo} {H0 G H : Hp} {σ : L2.St} {δ : List Sl} (e : EnvOk W H0 G H σ δ) (vs : List Nat) : EnvOk W H0 G H (L2.wipe σ vs) (wipeD δ vs) where
  len := by rw [wipe_length, wipeD_len]; exact e.len
  dat := fun i d h => by
    obtain ⟨hi, h⟩ := wiped_at h (by intro z; cases z)
    rw [wipe_get, if_neg hi]
    exact e.dat i d h
  mu := fun i ds h => by
    obtain ⟨hi, h⟩ := wiped_at h (by intro z; cases z)
    rw [wipe_get, if_neg hi]
    exact e.mu i ds h
  slf := fun i C fds h => by
    obtain ⟨hi, h⟩ := wiped_at h (by intro z; cases z)
    rw [wipe_get, if_neg hi]
    exact e.slf i C fds h
  sep := fun i j a s t hij hs ht so to h => by
    obtain ⟨hi, hs⟩ := wiped_at hs (by intro z; rw [z] at so; cases so)
    obtain ⟨hj, ht⟩ := wiped_at ht (by intro z; rw [z] at to; cases to)
    rw [wipe_get, if_neg hi] at h
    rw [wipe_get, if_neg hj]
    exact e.sep i j a s t hij hs ht so to h
theorem At.wipe {Γ : Cn} {δ : List Sl} {G H : Hp} {σ : L2.St} (a : At Γ δ G H σ) (vs : List Nat) : At Γ (wipeD δ vs) G H (L2.wipe σ vs) := ⟨a.fr, a.gd, a.env.wipe vs⟩

/-! ### what is walked -/
def Wk (W : Wo) (J : It) (ds : List Dt) (G : Hp) : Prop :=
  Walk J ds.length (fun H => Same G H) (fun i H x H' => ∀ G1, Same G G1 → Good W G1 H → ∃ G2 d, ds[i]? = some d ∧ Fr W G1 H G2 H' ∧ Good W G2 H' ∧ Dr W.K G2 x d)
def WD (Γ : Cn) (wi : TI) (δ : List Sl) (P : List Dt → Prop) : Prop :=
  ∀ G H σ (R : It → Hp → Prop), At Γ δ G H σ → (∀ J ds G' H', Fr Γ.W G H G' H' → Good Γ.W G' H' → Wk Γ.W J ds G' → P ds → R J H') → wi σ H R
/-- a target: js the slots that it stores -/
def GD (Γ : Cn) (g : TG) (js : List Nat) (δ : List Sl) (d : Dt) (P : List Sl → Prop) : Prop :=
  ∀ G H σ v (Q : L2.St → Hp → Prop), At Γ δ G H σ → Dr Γ.W.K G v d → (∀ δ' σ', At Γ δ' G H σ' → (∀ vs, (∀ j ∈ js, j ∈ vs) → wipe σ' vs = wipe σ vs) → P δ' → Q σ' H) → g v σ H Q
def GDs (Γ : Cn) (g : TGs) (js : List Nat) (δ : List Sl) (ds : List Dt) (P : List Sl → Prop) : Prop :=
  ∀ G H σ vs (Q : L2.St → Hp → Prop), At Γ δ G H σ → DrAll Γ.W.K G vs ds → (∀ δ' σ', At Γ δ' G H σ' → (∀ vs, (∀ j ∈ js, j ∈ vs) → wipe σ' vs = wipe σ vs) → P δ' → Q σ' H) → g vs σ H Q
section
variable {Γ : Cn} {δ : List Sl} {te ta tb tc : TE} {P : Dt → Prop}
theorem gd_name {i : Nat} {d : Dt} {P : List Sl → Prop} (h : P (δ.set i (.dat d))) : GD Γ (gName i) [i] δ d P := fun G H σ v Q at_ r k =>
  k _ _ ⟨at_.fr, at_.gd, at_.env.set r⟩ (fun vs hv => wipe_set σ _ (hv i List.mem_cons_self)) h
theorem gds_nil {P : List Sl → Prop} (h : P δ) : GDs Γ gNil [] δ [] P := fun G H σ vs Q at_ r k => by
  cases r
  exact ⟨rfl, k δ σ at_ (fun _ _ => rfl) h⟩
theorem gds_cons {g : TG} {u : TGs} {js ks : List Nat} {d : Dt} {ds : List Dt} {P : List Sl → Prop} (h : GD Γ g js δ d fun δ' => GDs Γ u ks δ' ds P) : GDs Γ (gCons g u) (js ++ ks) δ (d :: ds) P := fun G H σ vs Q at_ r k => by
  cases r with
  | cons r1 r2 =>
    refine ⟨_, _, rfl, h G H σ _ _ at_ r1 fun δ' σ' at1 hw q => ?_⟩
    refine q G H σ' _ Q at1 r2 fun δ2 σ2 at2 hw2 p => ?_
    exact k δ2 σ2 at2 (fun vs hv => (hw2 vs fun j hj => hv j (List.mem_append_right _ hj)).trans (hw vs fun j hj => hv j (List.mem_append_left _ hj))) p
theorem gd_tup {n : Nat} {g : TGs} {js : List Nat} {d : Dt} {P : List Sl → Prop} (h : ∃ ds, d = .tup ds ∧ ds.length = n ∧ GDs Γ g js δ ds P) : GD Γ (gTup Γ.W.K n g) js δ d P := fun G H σ v Q at_ r k => by
  obtain ⟨ds, rfl, hl, h⟩ := h
  cases r with
  | tup h1 h2 => exact ⟨_, _, rfl, sqT_mono at_.gd.sub h1, by rw [h2.length]; exact hl, h G H σ _ Q at_ h2 k⟩
theorem wd_list {tl : TE} {P : List Dt → Prop} (h : ED Γ tl δ fun d => ∃ ds, d = .lst ds ∧ P ds) : WD Γ (iList Γ.W.K tl) δ P := fun G H σ R at_ k =>
  h G H σ _ at_ fun v d G1 H1 f1 g1 d1 ⟨ds, e, p⟩ => by
    subst e
    cases d1 with
    | @lst a xs _ h1 h2 =>
      refine ⟨_, rfl, ⟨_, SqL.of (g1.sub _ _ h1)⟩, k _ ds G1 H1 f1 g1 ?_ p⟩
      have w := walk_list (K := Γ.W.K) (a := a) (xs := xs)
      rw [h2.length] at w
      refine w.mono (fun H q => SqL.of (q _ _ h1)) fun i H x H' hi q y => ?_
      obtain ⟨e, y⟩ := y
      subst e
      intro G2 e2 g2
      obtain ⟨d, hd, r⟩ := h2.get y
      exact ⟨G2, d, hd, Fr.refl _ _ _, g2, r.mono e2⟩
theorem wd_tup {tl : TE} {P : List Dt → Prop} (h : ED Γ tl δ fun d => ∃ ds, d = .tup ds ∧ P ds) : WD Γ (iTup Γ.W.K tl) δ P := fun G H σ R at_ k =>
  h G H σ _ at_ fun v d G1 H1 f1 g1 d1 ⟨ds, e, p⟩ => by
    subst e
    cases d1 with
    | @tup a xs _ h1 h2 =>
      refine ⟨_, rfl, ⟨_, sqT_mono g1.sub h1⟩, k _ ds G1 H1 f1 g1 ?_ p⟩
      have w := walk_tup (K := Γ.W.K) (a := a) (xs := xs)
      rw [h2.length] at w
      refine w.mono (fun H q => sqT_mono q h1) fun i H x H' hi q y => ?_
      obtain ⟨e, y⟩ := y
      subst e
      intro G2 e2 g2
      obtain ⟨d, hd, r⟩ := h2.get y
      exact ⟨G2, d, hd, Fr.refl _ _ _, g2, r.mono e2⟩
def upto (lo : Int) (n : Nat) : List Dt := (List.range n).map fun (i : Nat) => Dt.int (lo + (i : Int))
theorem upto_len (lo : Int) (n : Nat) : (upto lo n).length = n := by simp [upto]
theorem upto_get {lo : Int} {n i : Nat} {d : Dt} (h : (upto lo n)[i]? = some d) : i < n ∧ d = .int (lo + (i : Int)) := by
  have hl : i < (upto lo n).length := (List.getElem?_eq_some_iff.mp h).1
  rw [upto_len] at hl
  refine ⟨hl, ?_⟩
  unfold upto at h
  rw [List.getElem?_map, List.getElem?_range hl] at h
  exact (Option.some.inj h).symm
theorem upto_at {lo : Int} {n i : Nat} (h : i < n) : (upto lo n)[i]? = some (.int (lo + (i : Int))) := by
  unfold upto
  rw [List.getElem?_map, List.getElem?_range h]
  rfl
theorem wk_range {W : Wo} {lo : Int} {n : Nat} {G : Hp} : Wk W (Itr lo n) (upto lo n) G := by
  have w := walk_range (lo := lo) (n := n)
  unfold Wk
  rw [upto_len]
  refine w.mono (fun _ _ => trivial) fun i H x H' hi q y => ?_
  obtain ⟨e, y⟩ := y
  subst e
  subst y
  intro G2 e2 g2
  exact ⟨G2, _, upto_at hi, Fr.refl _ _ _, g2, .int _⟩
theorem wd_range1 {t : TA} {P : List Dt → Prop} (h : RA Γ t δ fun ds => ∃ j : Int, ds = [.int j] ∧ -(2 ^ 62) ≤ j ∧ j < 2 ^ 62 ∧ P (upto 0 j.toNat)) : WD Γ (iRng1 t) δ P := fun G H σ R at_ k =>
  h G H σ _ at_ fun vs ds G1 H1 f1 g1 d1 ⟨j, e, h1, h2, p⟩ => by
    subst e
    cases d1 with
    | cons r1 r2 =>
      cases r2
      have := r1.int
      subst this
      exact ⟨j, rfl, h1, h2, k _ _ G1 H1 f1 g1 wk_range p⟩
theorem wd_range2 {t : TA} {P : List Dt → Prop} (h : RA Γ t δ fun ds => ∃ i j : Int, ds = [.int i, .int j] ∧ (-(2 ^ 62) ≤ i ∧ i < 2 ^ 62 ∧ -(2 ^ 62) ≤ j ∧ j < 2 ^ 62) ∧ P (upto i (j - i).toNat)) : WD Γ (iRng2 t) δ P := fun G H σ R at_ k =>
  h G H σ _ at_ fun vs ds G1 H1 f1 g1 d1 ⟨i, j, e, h1, p⟩ => by
    subst e
    cases d1 with
    | cons r1 r2 =>
      cases r2 with
      | cons r2 r3 =>
        cases r3
        have := r1.int
        subst this
        have := r2.int
        subst this
        exact ⟨i, j, rfl, h1, k _ _ G1 H1 f1 g1 wk_range p⟩
def signs (z : Str) : List Dt := z.cps.toList.map fun c => .str ⟨#[c]⟩
theorem wd_str {tl : TE} {P : List Dt → Prop} (h : ED Γ tl δ fun d => ∃ z, d = .str z ∧ P (signs z)) : WD Γ (iStr tl) δ P := fun G H σ R at_ k =>
  h G H σ _ at_ fun v d G1 H1 f1 g1 d1 ⟨z, e, p⟩ => by
    subst e
    cases d1
    refine ⟨z, rfl, k _ _ G1 H1 f1 g1 ?_ p⟩
    have w := walk_str (z := z)
    unfold Wk
    rw [show (signs z).length = z.cps.size by simp [signs]]
    refine w.mono (fun _ _ => trivial) fun i H x H' hi q y => ?_
    obtain ⟨e, c, hc, y⟩ := y
    subst e
    subst y
    intro G2 e2 g2
    refine ⟨G2, .str ⟨#[c]⟩, ?_, Fr.refl _ _ _, g2, .str _⟩
    unfold signs
    rw [List.getElem?_map, Array.getElem?_toList, hc]
    rfl

/-! ### loops -/
theorem sd_for {wi : TI} {g : TG} {tb : TS} {js : List Nat} {D : De} (h : WD Γ wi δ fun ds => ∃ I : Nat → List Sl → Prop, I 0 δ ∧
    (∀ i x δ', ds[i]? = some x → I i δ' → GD Γ g js δ' x fun δ2 => SD Γ tb δ2 { nx := I (i + 1), ct := I (i + 1), bk := D.nx, rt := D.rt }) ∧ (∀ δ', I ds.length δ' → D.nx δ')) : SD Γ (tFor wi g tb) δ D := fun G H σ E at_ hn hr hb hc =>
  h G H σ _ at_ fun J ds G1 H1 f1 g1 w ⟨I, h0, hs, hd⟩ => by
    refine for_it w (fun i σ' H' => ∃ δ' G', Same G1 G' ∧ At Γ δ' G' H' σ' ∧ I i δ') ⟨δ, G1, Same.refl _, at_.step f1 g1, h0⟩ (fun i σ' H' _ ⟨δ', G', e, a, _⟩ => e.trans a.gd.sub) ?_ ?_
    · rintro i x σ' H' H2 hi ⟨δ', G', e, a, hI⟩ y
      obtain ⟨G2, d, hd', f2, g2, r⟩ := y G' e a.gd
      refine hs i d δ' hd' hI G2 H2 σ' x _ (a.step f2 g2) r fun δ2 σ2 a2 _ q => ?_
      refine q G2 H2 σ2 _ a2 ?_ hr ?_ ?_
      · intro δ3 G3 H3 σ3 e3 a3 q3
        exact ⟨δ3, G3, (e.trans f2.g).trans e3, a3, q3⟩
      · intro δ3 G3 H3 σ3 e3 a3 q3
        exact hn δ3 G3 H3 σ3 (((f1.g.trans e).trans f2.g).trans e3) a3 q3
      · intro δ3 G3 H3 σ3 e3 a3 q3
        exact ⟨δ3, G3, (e.trans f2.g).trans e3, a3, q3⟩
    · rintro σ' H' ⟨δ', G', e, a, hI⟩
      exact hn δ' G' H' σ' (f1.g.trans e) a (hd δ' hI)
/-! ### comprehensions -/
theorem nl_lc {wi : TI} {g : TG} {tt : TT} {vs js : List Nat} {P : List Dt → Prop} (hj : ∀ j ∈ js, j ∈ vs) (h : WD Γ wi δ fun ds => ds.length ≤ 100000 ∧ ∃ I : Nat → List Dt → Prop, I 0 [] ∧
    (∀ i x acc, ds[i]? = some x → I i acc → GD Γ g js (wipeD δ vs) x fun δ2 => TD Γ tt δ2 fun b => (b = true → ED Γ te δ2 fun y => I (i + 1) (acc ++ [y])) ∧ (b = false → I (i + 1) acc)) ∧ (∀ acc, I ds.length acc → P acc)) :
    NL Γ (tLc wi g tt te vs) δ P := fun G H σ Q at_ k =>
  h G H σ _ at_ fun J ds G1 H1 f1 g1 w ⟨hlen, I, h0, hs, hd⟩ D hD => by
    have gD : G1 D = none := g1.gn hD
    have mD : Γ.W.M ≠ some D := g1.nm hD
    have hHD : H D = none := fr_back f1 g1 hD
    have at1 := at_.step f1 g1
    refine lc_it w (fun i H' => ∃ G' xs acc, Fr Γ.W G1 H1 G' H' ∧ Good Γ.W G' H' ∧ G' D = none ∧ H' D = some (.lst xs) ∧ DrAll Γ.W.K G' xs acc ∧ xs.length ≤ i ∧ I i acc)
      ⟨G1, [], [], Fr.newM g1 hD, g1.setM gD mD, gD, upd_same, .nil, Nat.le_refl _, h0⟩ (fun i H' _ ⟨G', _, _, f, g, _⟩ => f.g.trans g.sub) ?_ ?_
    · rintro i x H' H2 hi ⟨G', xs, acc, f, gg, gDn, hDl, ra, hxl, hI⟩ y
      obtain ⟨G2, d, hd', f2, g2, r⟩ := y G' f.g gg
      have at2 : At Γ (wipeD δ vs) G2 H2 (wipe σ vs) := ((at1.step f gg).step f2 g2).wipe vs
      have D2 := f2.o D _ hDl gDn
      refine hs i d acc hd' hI G2 H2 (wipe σ vs) x _ at2 r fun δ2 σ2 a2 hw q => ⟨(hw vs hj).trans (wipe_wipe σ vs), ?_⟩
      refine q G2 H2 σ2 _ a2 fun b G3 H3 f3 g3 ⟨q1, q2⟩ => ?_
      have D3 := f3.o D _ (D2.2 mD) D2.1
      cases b with
      | true =>
        refine iteT ?_
        refine q1 rfl G3 H3 σ2 _ (a2.step f3 g3) fun v y G4 H4 f4 g4 d4 p4 => ?_
        have D4 := f4.o D _ (D3.2 mD) D3.1
        have f14 := ((f.trans f2 g2).trans f3 g3).trans f4 g4
        refine ⟨xs, D4.2 mD, Nat.lt_of_le_of_lt (Nat.le_trans hxl (Nat.le_of_lt (Nat.lt_of_lt_of_le hi hlen))) (by decide), G4, xs ++ [v], acc ++ [y], ?_, g4.setM D4.1 mD, D4.1, upd_same, ?_, ?_, p4⟩
        · refine ⟨f14.g, fun b u e gb => ?_⟩
          have hb : b ≠ D := ne_of_none e hD
          rw [upd_ne hb]
          exact f14.o b u e gb
        · exact ((((ra.mono f2.g).mono f3.g).mono f4.g)).append (.cons d4 .nil)
        · rw [List.length_append]
          show xs.length + 1 ≤ i + 1
          omega
      | false =>
        refine iteF ?_
        exact ⟨G3, xs, acc, (f.trans f2 g2).trans f3 g3, g3, D3.1, D3.2 mD, (ra.mono f2.g).mono f3.g, Nat.le_succ_of_le hxl, q2 rfl⟩
    · rintro H' ⟨G', xs, acc, f, gg, gDn, hDl, ra, _, hI⟩
      exact k D xs acc G' H' (f1.trans f gg) gg hHD hDl gDn ra (hd acc hI)
theorem td_yes {P : Bool → Prop} (p : P true) : TD Γ tYes δ P := fun G H σ Q at_ k => k true G H (Fr.refl _ _ _) at_.gd p

/-! ### own lists -/
theorem EnvOk.setMu {W : Wo} {H0 G H : Hp} {σ : L2.St} {δ : List Sl} (e : EnvOk W H0 G H σ δ) {i : Nat} {a : Addr} {xs : List V} {ds : List Dt} (hH : H a = some (.lst xs)) (hG : G a = none) (h0 : H0 a = none) (hm : W.M ≠ some a) (r : DrAll W.K G xs ds)
    (hn : ∀ j s, i ≠ j → δ[j]? = some s → s.own = true → σ[j]? ≠ some (some (.ref a))) : EnvOk W H0 G H (σ.set i (some (.ref a))) (δ.set i (.mu ds)) where
  len := by rw [List.length_set, List.length_set]; exact e.len
  dat := fun j d' hj => by
    rw [set_get] at hj ⊢
    by_cases q : i = j
    · rw [if_pos q] at hj
      split at hj <;> cases hj
    · rw [if_neg q] at hj ⊢
      exact e.dat j d' hj
  mu := fun j ds' hj => by
    rw [set_get] at hj ⊢
    by_cases q : i = j
    · rw [if_pos q] at hj ⊢
      by_cases q2 : i < δ.length
      · rw [if_pos q2] at hj
        rw [if_pos (by rw [e.len]; exact q2)]
        cases hj
        exact ⟨a, xs, rfl, hH, hG, h0, hm, r⟩
      · rw [if_neg q2] at hj
        cases hj
    · rw [if_neg q] at hj ⊢
      exact e.mu j ds' hj
  slf := fun j C fds hj => by
    rw [set_get] at hj ⊢
    by_cases q : i = j
    · rw [if_pos q] at hj
      split at hj <;> cases hj
    · rw [if_neg q] at hj ⊢
      exact e.slf j C fds hj
  sep := fun j k b s t hjk hj hk so to h1 => by
    rw [set_get] at hj hk h1 ⊢
    by_cases q : i = j
    · rw [if_pos q] at hj h1
      have q2 : i ≠ k := fun z => hjk (q.symm.trans z)
      rw [if_neg q2] at hk ⊢
      split at h1
      · cases h1
        exact hn k t q2 hk to
      · cases h1
    · rw [if_neg q] at hj h1
      by_cases q2 : i = k
      · rw [if_pos q2] at hk ⊢
        split
        · intro z
          cases z
          exact hn j s q hj so h1
        · intro z
          cases z
      · rw [if_neg q2] at hk ⊢
        exact e.sep j k b s t hjk hj hk so to h1
theorem sd_asgM {i : Nat} {D : De} (h : NL Γ te δ fun ds => D.nx (δ.set i (.mu ds))) : SD Γ (tAsg te (gName i)) δ D := fun G H σ E at_ hn hr hb hc =>
  h G H σ _ at_ fun a xs ds G1 H1 f1 g1 ha h1 h2 r p => by
    have e1 := at_.env.step f1
    refine hn _ G1 H1 _ f1.g ⟨at_.fr.trans f1 g1, g1, e1.setMu h1 h2 (at_.h0 ha) (at_.gd.nm ha) r ?_⟩ p
    intro j s hj hs so z
    cases s with
    | un => cases so
    | dat d => cases so
    | mu ds' =>
      obtain ⟨b, ys, k1, k2, _⟩ := at_.env.mu j ds' hs
      rw [k1] at z
      cases z
      rw [ha] at k2
      cases k2
    | slf C fds =>
      obtain ⟨b, dx, ys, k1, k2, _⟩ := at_.env.slf j C fds hs
      rw [k1] at z
      cases z
      rw [ha] at k2
      cases k2
/-- an own list is changed no more -/
theorem sd_freeze {i : Nat} {ds : List Dt} {ts : TS} {D : De} (hi : δ[i]? = some (.mu ds)) (h : SD Γ ts (δ.set i (.dat (.lst ds))) D) : SD Γ ts δ D := fun G H σ E at_ hn hr hb hc => by
  obtain ⟨a, xs, h1, h2, h3, h4, h5, h6⟩ := at_.env.mu i ds hi
  have sG : Same G (upd G a (.lst xs)) := same_new h3
  have gd2 : Good Γ.W (upd G a (.lst xs)) H := ⟨fun b u e => by
    by_cases q : b = a
    · subst q
      rw [upd_same] at e
      rw [← e]
      exact h2
    · rw [upd_ne q] at e
      exact at_.gd.sub b u e, fun b e => by
    obtain ⟨k1, k2⟩ := at_.gd.st b e
    have hba : b ≠ a := fun q => h5 (q ▸ e)
    rw [upd_ne hba]
    exact ⟨k1, k2⟩⟩
  have fr2 : Fr Γ.W Γ.G0 Γ.H0 (upd G a (.lst xs)) H := ⟨at_.fr.g.trans sG, fun b u e gb => by
    have q : b ≠ a := ne_of_none e h4
    rw [upd_ne q]
    exact at_.fr.o b u e gb⟩
  have hlen : i < δ.length := (List.getElem?_eq_some_iff.mp hi).1
  have env2 : EnvOk Γ.W Γ.H0 (upd G a (.lst xs)) H σ (δ.set i (.dat (.lst ds))) := {
    len := by rw [List.length_set]; exact at_.env.len
    dat := fun j d hj => by
      rw [set_get] at hj
      by_cases q : i = j
      · rw [if_pos q, if_pos hlen] at hj
        cases hj
        subst q
        exact ⟨.ref a, h1, .lst upd_same (h6.mono sG)⟩
      · rw [if_neg q] at hj
        obtain ⟨v, k1, k2⟩ := at_.env.dat j d hj
        exact ⟨v, k1, k2.mono sG⟩
    mu := fun j ds' hj => by
      rw [set_get] at hj
      by_cases q : i = j
      · rw [if_pos q, if_pos hlen] at hj
        cases hj
      · rw [if_neg q] at hj
        obtain ⟨b, ys, k1, k2, k3, k4, k5, k6⟩ := at_.env.mu j ds' hj
        have q2 : b ≠ a := fun z => at_.env.sep i j a _ _ q hi hj rfl rfl h1 (z ▸ k1)
        exact ⟨b, ys, k1, k2, by rw [upd_ne q2]; exact k3, k4, k5, k6.mono sG⟩
    slf := fun j C fds hj => by
      rw [set_get] at hj
      by_cases q : i = j
      · rw [if_pos q, if_pos hlen] at hj
        cases hj
      · rw [if_neg q] at hj
        obtain ⟨b, dx, ys, k1, k2, k3, k4, k5, k6, k7, k8, k9, k10⟩ := at_.env.slf j C fds hj
        have q2 : b ≠ a := fun z => by subst z; rw [h2] at k2; cases k2
        have q3 : dx ≠ a := fun z => by subst z; rw [h2] at k3; cases k3
        exact ⟨b, dx, ys, k1, k2, k3, by rw [upd_ne q2]; exact k4, by rw [upd_ne q3]; exact k5, k6, k7, k8, k9, k10.mono sG⟩
    sep := fun j k b s t hjk hj hk so to z => by
      rw [set_get] at hj hk
      by_cases q : i = j
      · rw [if_pos q, if_pos hlen] at hj
        cases hj
        cases so
      · rw [if_neg q] at hj
        by_cases q2 : i = k
        · rw [if_pos q2, if_pos hlen] at hk
          cases hk
          cases to
        · rw [if_neg q2] at hk
          exact at_.env.sep j k b s t hjk hj hk so to z }
  exact h (upd G a (.lst xs)) H σ E ⟨fr2, gd2, env2⟩ (fun δ2 G2 H2 σ2 e2 a2 q2 => hn δ2 G2 H2 σ2 (sG.trans e2) a2 q2) hr (fun δ2 G2 H2 σ2 e2 a2 q2 => hb δ2 G2 H2 σ2 (sG.trans e2) a2 q2) (fun δ2 G2 H2 σ2 e2 a2 q2 => hc δ2 G2 H2 σ2 (sG.trans e2) a2 q2)
/-- the own list in slot i is now ds' -/
theorem At.store {G H : Hp} {σ : L2.St} {i : Nat} {ds ds' : List Dt} {a : Addr} {xs xs' : List V} (at_ : At Γ δ G H σ) (hi : δ[i]? = some (.mu ds)) (hv : σ[i]? = some (some (.ref a))) (r : DrAll Γ.W.K G xs' ds') :
    At Γ (δ.set i (.mu ds')) G (upd H a (.lst xs')) σ := by
  obtain ⟨a', xs, h1, h2, h3, h4, h5, h6⟩ := at_.env.mu i ds hi
  rw [hv] at h1
  cases h1
  have hlen : i < δ.length := (List.getElem?_eq_some_iff.mp hi).1
  refine ⟨⟨at_.fr.g, fun b u e gb => ?_⟩, at_.gd.setM h3 h5, ?_⟩
  · have q : b ≠ a := ne_of_none e h4
    rw [upd_ne q]
    exact at_.fr.o b u e gb
  · exact {
      len := by rw [List.length_set]; exact at_.env.len
      dat := fun j d hj => by
        rw [set_get] at hj
        by_cases q : i = j
        · rw [if_pos q, if_pos hlen] at hj
          cases hj
        · rw [if_neg q] at hj
          exact at_.env.dat j d hj
      mu := fun j es hj => by
        rw [set_get] at hj
        by_cases q : i = j
        · rw [if_pos q, if_pos hlen] at hj
          cases hj
          subst q
          exact ⟨a, xs', hv, upd_same, h3, h4, h5, r⟩
        · rw [if_neg q] at hj
          obtain ⟨b, ys, k1, k2, k3, k4, k5, k6⟩ := at_.env.mu j es hj
          have q2 : b ≠ a := fun z => at_.env.sep i j a _ _ q hi hj rfl rfl hv (z ▸ k1)
          exact ⟨b, ys, k1, by rw [upd_ne q2]; exact k2, k3, k4, k5, k6⟩
      slf := fun j C fds hj => by
        rw [set_get] at hj
        by_cases q : i = j
        · rw [if_pos q, if_pos hlen] at hj
          cases hj
        · rw [if_neg q] at hj
          obtain ⟨b, dx, ys, k1, k2, k3, k4, k5, k6, k7, k8, k9, k10⟩ := at_.env.slf j C fds hj
          have q2 : b ≠ a := fun z => by subst z; rw [h2] at k2; cases k2
          have q3 : dx ≠ a := fun z => by subst z; rw [h2] at k3; cases k3
          exact ⟨b, dx, ys, k1, by rw [upd_ne q2]; exact k2, by rw [upd_ne q3]; exact k3, k4, k5, k6, k7, k8, k9, k10⟩
      sep := fun j k b s t hjk hj hk so to z => by
        rw [set_get] at hj hk
        by_cases q : i = j
        · subst q
          have q2 : i ≠ k := hjk
          rw [if_neg q2] at hk
          exact at_.env.sep i k b _ t hjk hi hk rfl to z
        · rw [if_neg q] at hj
          by_cases q2 : i = k
          · subst q2
            exact at_.env.sep j i b s _ hjk hj hi so rfl z
          · rw [if_neg q2] at hk
            exact at_.env.sep j k b s t hjk hj hk so to z }
theorem sd_app {i : Nat} {ds : List Dt} {D : De} (hi : δ[i]? = some (.mu ds)) (hl : ds.length < 100000) (h : ED Γ te δ fun d => D.nx (δ.set i (.mu (ds ++ [d])))) :
    SD Γ (tDrop (tBM Γ.W.K "list" rAppend (tVar i) (tCons te tNil))) δ D := fun G H σ E at_ hn hr hb hc => by
  obtain ⟨a, xs, h1, h2, h3, h4, h5, h6⟩ := at_.env.mu i ds hi
  refine ⟨.ref a, h1, .inl ⟨rfl, xs, .inl (.inl h2)⟩, h G H σ _ at_ fun v d G1 H1 f1 g1 d1 p1 => ?_⟩
  have k := f1.o a _ h2 h3
  refine ⟨a, xs, v, rfl, rfl, k.2 h5, ?_, ?_⟩
  · rw [h6.length]
    exact Nat.lt_trans hl (by decide)
  · exact hn _ G1 _ σ f1.g ((at_.step f1 g1).store hi h1 ((h6.mono f1.g).append (.cons d1 .nil)) (xs := xs)) p1
end

/-! ### promises -/
/-- a def over data: what it asks of the world and the data, what its answer is -/
def spW (K : PySem.W.Frag) (n : Nat) (Pre : Wo → List Dt → Prop) (R : List Dt → Dt → Prop) : Sp := fun vs H Q _ => vs.length = n ∧ ∃ W ds G, W.K = K ∧ Good W G H ∧ DrAll K G vs ds ∧ Pre W ds ∧
  ∀ v d G' H', Fr W G H G' H' → Good W G' H' → Dr K G' v d → R ds d → Q v H'
section
variable {Γ : Cn} {δ : List Sl} {P : Dt → Prop}
theorem ed_call {n : Nat} {Pre : Wo → List Dt → Prop} {R : List Dt → Dt → Prop} {E : XK} {t : TA} (h : AD Γ t δ fun ds => ds.length = n ∧ Pre Γ.W ds ∧ ∀ d, R ds d → P d) : ED Γ (tCall (spW Γ.W.K n Pre R) [] E t) δ P := fun G H σ Q at_ k =>
  h G H σ _ at_ fun vs ds G1 H1 f1 g1 d1 ⟨hl, p1, p2⟩ => by
    show spW Γ.W.K n Pre R (vs ++ []) H1 Q E
    rw [List.append_nil]
    exact ⟨d1.length.trans hl, Γ.W, ds, G1, rfl, g1, d1, p1, fun v d G' H' f g r q => k v d G' H' (f1.trans f g) g r (p2 d q)⟩
end
/-- the context of a def's body that lets no error out -/
def cn0 (W : Wo) (G H : Hp) : Cn := ⟨W, G, H, fun _ _ _ => False, fun _ _ => False, fun _ _ _ _ _ _ _ _ h => h⟩
def slots (n : Nat) (ds : List Dt) : List Sl := ds.map .dat ++ List.replicate (n - ds.length) .un
theorem at_start {W : Wo} {G H : Hp} {N : List Str} {vs : List V} {ds : List Dt} (g : Good W G H) (r : DrAll W.K G vs ds) : At (cn0 W G H) (slots N.length ds) G H (L2.start N vs) := by
  have hl := r.length
  refine ⟨Fr.refl _ _ _, g, ?_⟩
  have key : ∀ (i : Nat) (s : Sl), (slots N.length ds)[i]? = some s → s ≠ .un → ∃ d, ds[i]? = some d ∧ s = .dat d := by
    intro i s h hs
    unfold slots at h
    by_cases hi : i < (ds.map Sl.dat).length
    · rw [List.getElem?_append_left hi, List.getElem?_map] at h
      cases q : ds[i]? with
      | none => rw [q] at h; cases h
      | some d =>
        rw [q] at h
        exact ⟨d, rfl, (Option.some.inj h).symm⟩
    · rw [List.getElem?_append_right (by omega)] at h
      rw [List.getElem?_replicate] at h
      split at h
      · cases h
        exact absurd rfl hs
      · cases h
  refine ⟨?_, ?_, ?_, ?_, ?_⟩
  · unfold L2.start slots
    rw [List.length_append, List.length_append, List.length_map, List.length_map, List.length_replicate, List.length_replicate, hl]
  · intro i d h
    obtain ⟨d', hd, e⟩ := key i _ h (by intro z; cases z)
    cases e
    obtain ⟨v, hv, rr⟩ := r.getD hd
    refine ⟨v, ?_, rr⟩
    unfold L2.start
    rw [List.getElem?_append_left (by rw [List.length_map]; exact (List.getElem?_eq_some_iff.mp hv).1), List.getElem?_map, hv]
    rfl
  · intro i d h
    obtain ⟨d', hd, e⟩ := key i _ h (by intro z; cases z)
    cases e
  · intro i C d h
    obtain ⟨d', hd, e⟩ := key i _ h (by intro z; cases z)
    cases e
  · intro i j a s t _ hs ht so
    obtain ⟨d', hd, e⟩ := key i _ hs (by intro z; rw [z] at so; cases so)
    rw [e] at so
    cases so
/-- from a body over data to the promise's reading -/
theorem body_of {K : PySem.W.Frag} {n : Nat} {Pre : Wo → List Dt → Prop} {R : List Dt → Dt → Prop} {N : List Str} {t : TS} {vs : List V} {H : Hp} {Q : VK} {E : XK}
    (h : ∀ (Γ : Cn) ds, Γ.W.K = K → ds.length = n → Pre Γ.W ds → SD Γ t (slots N.length ds) { nx := fun _ => R ds .non, rt := R ds }) (hs : spW K n Pre R vs H Q E) : t { nx := fun _ H' => Q .non H', rt := Q } (L2.start N vs) H := by
  obtain ⟨hl, W, ds, G, rfl, g, r, p, k⟩ := hs
  refine h (cn0 W G H) ds rfl (r.length.symm.trans hl) p G H (L2.start N vs) _ (at_start g r) ?_ ?_ ?_ ?_
  · intro δ' G' H' σ' e a q
    exact k .non .non G' H' a.fr a.gd .non q
  · intro v d G' H' f g' rr q
    exact k v d G' H' f g' rr q
  · intro δ' G' H' σ' e a q
    exact q.elim
  · intro δ' G' H' σ' e a q
    exact q.elim
/-- a def whose answer is a new list -/
def spN (K : PySem.W.Frag) (n : Nat) (Pre : Wo → List Dt → Prop) (R : List Dt → List Dt → Prop) : Sp := fun vs H Q _ => vs.length = n ∧ ∃ W ds G, W.K = K ∧ Good W G H ∧ DrAll K G vs ds ∧ Pre W ds ∧
  ∀ a xs es G' H', Fr W G H G' H' → Good W G' H' → H a = none → H' a = some (.lst xs) → G' a = none → DrAll K G' xs es → R ds es → Q (.ref a) H'
theorem nl_call {Γ : Cn} {δ : List Sl} {P : List Dt → Prop} {n : Nat} {Pre : Wo → List Dt → Prop} {R : List Dt → List Dt → Prop} {E : XK} {t : TA} (h : AD Γ t δ fun ds => ds.length = n ∧ Pre Γ.W ds ∧ ∀ es, R ds es → P es) : NL Γ (tCall (spN Γ.W.K n Pre R) [] E t) δ P := fun G H σ Q at_ k =>
  h G H σ _ at_ fun vs ds G1 H1 f1 g1 d1 ⟨hl, p1, p2⟩ => by
    show spN Γ.W.K n Pre R (vs ++ []) H1 Q E
    rw [List.append_nil]
    exact ⟨d1.length.trans hl, Γ.W, ds, G1, rfl, g1, d1, p1, fun a xs es G' H' f g ha h1 h2 r q => k a xs es G' H' (f1.trans f g) g (fr_back f1 g1 ha) h1 h2 r (p2 es q)⟩
end Pd

set_option Elab.async false
set_option linter.all false
set_option maxRecDepth 100000
set_option maxHeartbeats 2000000
/-! Calls where no repr is under way (guards told): what repr of a list wants. -/
namespace Pg
open PySem PySem.Spec PyProof.Rows L2

structure FnG (P : Program) (w : World) (K : PySem.W.Frag) (mg : Str → Option Value) (base : Heap) (k : Nat) (f : Addr) (fd : FuncData) (ps : List Str) (sp : Sp) : Prop where
  ln : ∀ vs H Q E, sp vs H Q E → vs.length = ps.length
  go : ∀ (A : Around) (out : List Env) (s : Shared) (H : Hp) (args : Args) (us : List Value) (vs : List V) (Q : VK) (E : XK),
    Room k A → A.guards = some [] → Env0 P w K mg base A out s H → BindsTo s fd args (ps.zip us) → Vals vs us → sp vs H Q E →
    codeAny (model P w) A (.call (.ref f) args) (CR L2.CX0 out P w H s Q E) s
theorem FnG.of {P : Program} {w : World} {K : PySem.W.Frag} {mg : Str → Option Value} {base : Heap} {k : Nat} {f : Addr} {fd : FuncData} {ps : List Str} {sp : Sp} (F : FnOk P w K mg base L2.CX0 k f fd ps sp) : FnG P w K mg base k f fd ps sp :=
  ⟨F.len, fun A o s H args us vs Q E hr _ e hb hv hs => F.run A o s H args us vs Q E hr e hb hv hs⟩

/-- a def of the text whose body may show lists -/
theorem fnG_of {P : Program} {w : World} {K : PySem.W.Frag} {mg : Str → Option Value} {base : Heap} {k : Nat} {x qual : Str} {st : Stmt} {f : Addr} {fd : FuncData} {N ps : List Str} {sp : Sp}
    (F : Fun K x qual st f fd) (S : FnScope N ps (defScope st)) (hl : ∀ vs H Q E, sp vs H Q E → vs.length = ps.length)
    (bd : ∀ (cv : Value) (A : Around) (out : List Env) (s : Shared) (H : Hp) (vs : List V) (Q : VK) (E : XK), Room k (A.deeper (envOfC qual (defScope st) s.heap.objs.size f cv)) → A.guards = some [] → sp vs H Q E →
      ∃ t, PSs (cxOf L2.CX0 P w K mg base N qual (defScope st) f cv A out s H E).nox (defBody st) t ∧ t { nx := fun _ H' => Q .non H', rt := Q } (L2.start N vs) H) :
    FnG P w K mg base (k + 1) f fd ps sp := by
  obtain ⟨oc, od, kV, dc, pm, an, cv, ct, sl, rfl, lk, hcd⟩ := F.ex
  refine ⟨hl, ?_⟩
  intro A out s H args us vs Q E hr hgd e0 hb r hsp
  have inK : K.In s.heap := e0.mod.kin.keeps (fun b o e => (e0.bs b o e).1)
  have noL : s.heap.NoLimit := e0.mod.nolimit.keeps (fun b o e => (e0.bs b o e).1)
  have kinds : ∀ y ∈ ps.zip us, (defScope st).names.lookup y.1 = some .local ∨
      ((defScope st).names.lookup y.1 = some .cell ∧ ((cellsFrom (s.heap.objs.size + 1) (defScope st).names []).lookup y.1).isSome = true) := by
    intro y hy
    obtain ⟨n, v⟩ := y
    cases S.par n (List.of_mem_zip hy).1 with
    | inl q => exact Or.inl q
    | inr q => exact Or.inr ⟨q, PySem.W.cellsFrom_some _ _ _ (Or.inl q)⟩
  refine codeAny_call_function hr.depth (inK _ _ lk) rfl S.co S.gen rfl (PySem.W.codeRec_of inK hcd) (hb _ _ _ _ ?_)
  refine wpAny_newFunctionEnv_cells S.kind kinds (fun env he s1 ic => ?_)
  cases he
  refine ⟨noL.keeps ic.toInCall.keep, codeAny_func ?_⟩
  obtain ⟨t, ht, hq⟩ := bd cv A out s H vs Q E (hr.deeper _) hgd hsp
  have J0 := inv_start (CX := L2.CX0) (E := E) S hr.hd e0 (hl _ _ _ _ hsp) r ic
  refine wpAny_mono (ht.nox.run [] s1 (L2.start N vs) H _ J0 hq) ?_ (fun _ _ z => z)
  intro fl s' hs
  cases fl with
  | ret u =>
    obtain ⟨v, σ2, H2, J, rv, q⟩ := hs
    exact ⟨v, H2, J.os, J.bare, J.base, J.hok, rv, q⟩
  | next =>
    obtain ⟨σ2, H2, J, q⟩ := hs
    exact ⟨V.non, H2, J.os, J.bare, J.base, J.hok, rfl, q⟩
  | brk => exact False.elim hs.choose_spec.choose_spec.2
  | cont => exact False.elim hs.choose_spec.choose_spec.2

section
variable {X : Cx} {k : Nat} {f : Addr} {fd : FuncData} {ps : List Str} {sp : Sp} {E : XK} {x : Str} {p pos : Pos} {e : Expr} {es : List Expr} {t : TA}
/-- f(e, ..) of such a def -/
theorem peG_call (F : FnG X.prog X.w X.K X.mg X.base k f fd ps sp) (hgd : X.A.guards = some []) (hr : Room k X.A) (hg : Gl X x) (hm : X.mg x = some (.ref f)) (hk : PySem.W.keepIn X.K (.ref f) = true) (hb : Binds X.K fd ps [])
    (ha : PA X (e :: es) t) (hdb : (x == ("__debug__" : Str)) = false := by decide) (he : starEach (e :: es) X.env = (false, eval e X.env) :: starEach es X.env := by rfl)
    (hpl : (backTo pos (starEach es X.env)).any (·.1) = false := by rfl) : PE X (.Call (.Name x p) (e :: es) [] pos) (tCall sp [] E t) := by
  constructor
  intro pins s σ H Q I h
  refine wpAny_Call_Name_kw (ld_glob I hg hm ?_ hdb)
  refine PySem.W.callWith_K (h₀ := X.base) I.ok.mod.kin hk (thn (ha.run pos pins s σ H _ I h) ?_) he hpl
  intro us s1 hh
  obtain ⟨vs, H1, I1, r, q⟩ := hh
  refine ⟨I1.kIn, ?_⟩
  have q' : sp vs H1 Q E := by
    have z : sp (vs ++ []) H1 Q E := q
    rw [List.append_nil] at z
    exact z
  have hln : us.length = ps.length := by rw [← r.length]; exact F.ln _ _ _ _ q'
  have bb := hb s1 us I1.kIn (by rw [List.append_nil]; exact hln)
  rw [List.append_nil] at bb
  refine wpAny_call (codeAny_mono (F.go X.A X.stack s1 H1 ⟨us, []⟩ us vs Q E hr hgd I1.env0 bb r q') ?_)
  intro rr s' hq
  match rr, hq with
  | .error _, hq => exact False.elim hq
  | .ok (.ret _), hq => exact I1.after hq
  | .ok .next, hq => exact False.elim hq
  | .ok .brk, hq => exact False.elim hq
  | .ok .cont, hq => exact False.elim hq
end

/-- the law's call, by such a def's promise -/
theorem lawG_call {P : Program} {w : World} {K : PySem.W.Frag} {mg mb : Str → Option Value} {k : Nat} {fa a : Addr} {fd : FuncData} {x : Str} {sp : Sp} {s₁ : Shared} {vs : List Value} {ns : List Int}
    (KX : K.In s₁.heap) (gN : s₁.heap.Ns mainGlobals mg) (bN : s₁.heap.Ns builtinsNs mb) (bB : ∀ x : Str, x ≠ "__name__" → mb x = bootBuiltins x) (lim : s₁.heap.NoLimit) (hg : s₁.gens = #[])
    (ha : s₁.heap.get? a = some { cls := .type "list", data := .seq vs.toArray }) (hi : IntsAre vs ns) (hl : ns.length ≤ sizeLine) (hr : Room k callerA)
    (F : ∀ base : Heap, K.In base → base.Ns mainGlobals mg → FnG P w K mg base k fa fd [x] sp) (hbind : ∀ (s : Shared) (u : Value), BindsTo s fd ⟨[u], []⟩ [(x, u)])
    (hsp : ∀ H : Hp, Only H → SqL K H a (ns.map V.int) → sp [.ref a] H (fun v _ => v = .bl true) fun _ _ _ => False) :
    codeAny (model P w) callerA (.call (.ref fa) ⟨[.ref a], []⟩) (fun r s' => r = .ok (.ret (.bool true)) ∧ OldK s₁.heap s'.heap ∧ s'.os = s₁.os ∧ AllBare s'.gens) s₁ := by
  have rv := vals_ints hi
  have main : ∀ H : Hp, Only H → SqL K H a (ns.map V.int) → HOk P w H s₁.heap → (∀ b, H b ≠ none → b = a) → (H a ≠ none → K.lookup a = none) →
      codeAny (model P w) callerA (.call (.ref fa) ⟨[.ref a], []⟩) (fun r s' => r = .ok (.ret (.bool true)) ∧ OldK s₁.heap s'.heap ∧ s'.os = s₁.os ∧ AllBare s'.gens) s₁ := by
    intro H hO hS hok only noK
    have up : ∀ {b : Addr} {o : Obj}, s₁.heap.get? b = some o → H b = none → (hidT s₁.heap H).get? b = some o := fun e n => hidT_get e n
    have free : ∀ {b : Addr}, b ≠ a → H b = none := by
      intro b hb
      cases q : H b with
      | none => rfl
      | some u => exact absurd (only b (by rw [q]; exact Option.some_ne_none u)) hb
    have nsU : ∀ {b : Addr} {m : Str → Option Value}, s₁.heap.Ns b m → (hidT s₁.heap H).Ns b m := by
      intro b m hm
      obtain ⟨o, es, ep, e, d, r⟩ := hm
      refine ⟨o, es, ep, up e (free ?_), d, r⟩
      intro z
      subst z
      rw [ha] at e
      cases e
      cases (show Data.seq vs.toArray _ = Data.dict es ep from d)
    have kU : K.In (hidT s₁.heap H) := by
      intro b o e
      refine up (KX b o e) ?_
      cases q : H b with
      | none => rfl
      | some u =>
        have z : b = a := only b (by rw [q]; exact Option.some_ne_none u)
        subst z
        rw [noK (by rw [q]; exact Option.some_ne_none u)] at e
        cases e
    have md : Mod K mg (hidT s₁.heap H) := by
      refine ⟨kU, nsU gN, ⟨mb, nsU bN, bB⟩, ?_⟩
      obtain ⟨mc, h1, h2⟩ := lim
      exact ⟨mc, nsU h1, h2⟩
    have e0 : Env0 P w K mg (hidT s₁.heap H) callerA [] s₁ H := by
      refine ⟨rfl, md, fun b o e => of_hidT e, Nat.le_of_eq (hidT_size _ _), trivial, ?_, hok, .of_eq hg⟩
      intro b hb
      exact absurd hb (List.not_mem_nil)
    refine codeAny_mono ((F _ kU (nsU gN)).go callerA [] s₁ H ⟨[.ref a], []⟩ [.ref a] [.ref a] _ _ hr rfl e0 (hbind s₁ (.ref a)) (.cons rfl .nil) (hsp H hO hS)) ?_
    intro rr s' h
    match rr, h with
    | .error _, h => exact False.elim h
    | .ok .next, h => exact False.elim h
    | .ok .brk, h => exact False.elim h
    | .ok .cont, h => exact False.elim h
    | .ok (.ret u), h =>
      obtain ⟨v, H', os, bare, un, hok', r', q⟩ := h
      cases (show v = .bl true from q)
      cases (show u = Value.bool true from r')
      refine ⟨rfl, OldK.of_keep ?_, os, bare⟩
      intro b o e
      cases q : H b with
      | none => exact un.keep b o e q List.not_mem_nil List.not_mem_nil
      | some u =>
        cases hO b with
        | inl z => rw [q] at z; cases z
        | inr z =>
          obtain ⟨ob, xs, z⟩ := z
          have w1 := (hok b _ z).1
          have w2 := (hok' b _ (un.frzs b ob _ z)).1
          rw [e] at w1
          cases w1
          exact w2
  cases hk : K.lookup a with
  | some o =>
    have e := KX a o hk
    rw [ha] at e
    cases e
    have sq : SqL K (fun _ => none) a (ns.map V.int) := by
      refine Or.inr ⟨_, vs.toArray, _, hk, rfl, rfl, rfl, ?_, ?_⟩
      · rw [List.size_toArray, hi.length]
        exact hl
      · simpa using rv
    exact main (fun _ => none) (fun _ => Or.inl rfl) sq (fun b u z => nomatch z) (fun b z => absurd rfl z) (fun z => absurd rfl z)
  | none =>
    let Hs : Hp := fun b => if b = a then some (.frz { cls := .type "list", data := .seq vs.toArray } (.lst (ns.map V.int))) else none
    have hs1 : Hs a = some (.frz { cls := .type "list", data := .seq vs.toArray } (.lst (ns.map V.int))) := if_pos rfl
    have hs2 : ∀ b, b ≠ a → Hs b = none := fun b hb => if_neg hb
    refine main Hs ?_ (Or.inl (Or.inr ⟨_, hs1⟩)) ?_ ?_ (fun _ => hk)
    · intro b
      by_cases hb : b = a
      · subst hb
        exact Or.inr ⟨_, _, hs1⟩
      · exact Or.inl (hs2 b hb)
    · intro b u z
      by_cases hb : b = a
      · subst hb
        rw [hs1] at z
        cases z
        refine ⟨ha, ?_, vs, _, rv, ha⟩
        rw [List.length_map]
        exact hl
      · rw [hs2 b hb] at z
        cases z
    · intro b z
      by_cases hb : b = a
      · exact hb
      · exact absurd (hs2 b hb) z
theorem walkG_of {l : PySem.W.OpenLaw} {n k : Nat} {q : Program} {loose : List Str} {XP : (Str → Option Value) → Heap → Prop} {YP : World → Heap → Prop} {d : DefRec} {K : Params → PySem.W.Frag} {sp : World → Sp} {x : Str}
    (hn : l.most = some n) (n2 : n ≤ sizeLine) (df : d.params.defaults = []) (hr : Room k callerA) (hY : ∀ (w : World) (h : Heap), YP w h → (K w.params).In h)
    (F : ∀ (w : World) (mg : Str → Option Value) (fa : Addr) (h : Heap), (K w.params).In h → h.Ns mainGlobals mg → mg d.name = some (.ref fa) → ∃ fd : FuncData, (∀ (s : Shared) (u : Value), BindsTo s fd ⟨[u], []⟩ [(x, u)]) ∧
      ∀ base : Heap, (K w.params).In base → base.Ns mainGlobals mg → FnG l.prog w (K w.params) mg base k fa fd [x] (sp w))
    (hsp : ∀ (w : World) (H : Hp) (a : Addr) (ns : List Int), ns.length ≤ n → Only H → SqL (K w.params) H a (ns.map V.int) → sp w [.ref a] H (fun v _ => v = .bl true) fun _ _ _ => False) :
    PySem.W.WalkO q loose XP YP l.row.toRowW d [] (fun f vs => PySem.call f vs) := by
  refine Att.attach_call hn df ?_
  intro w s₀ s₁ mg mb fa o pm cd doc a vs ns G Y ho hd hcd hmg hobj hints hlen hg
  have inK := hY w _ Y
  obtain ⟨fd, hb, hF⟩ := F w mg fa _ inK G.T.g hmg
  exact lawG_call inK G.T.g G.T.b G.T.builtins G.T.nolimit hg hobj hints (Nat.le_trans hlen n2) hr hF hb (fun H hO hS => hsp w H a ns hlen hO hS)

/-! ### repr of data -/
/-- repr(x), x plain data -/
def rRepr (K : PySem.W.Frag) : List V → Hp → VK → Prop := fun xs H Q => ∃ x d, xs = [x] ∧ Dp K H x d ∧ d.showable = true ∧ d.hasDict = false ∧ d.depth ≤ 60 ∧ d.shown.length ≤ sizeLine ∧ Q (.str d.shown) H
theorem call_repr {X : Cx} (hgd : X.A.guards = some []) (hu : X.A.units + 64 < cLine) : CallR X (.builtin "repr") (rRepr X.K) := by
  intro pins s σ H xs us Q I r h
  obtain ⟨x, d, rfl, hd, hsh, hdi, hdp, hsz, q⟩ := h
  obtain ⟨u, rfl, rx⟩ := vals1 r
  obtain ⟨as, rr⟩ := Dp.reads I d x u hd rx
  have fin : ∀ (h' : Heap) (tt : Tok) (tk : Nat), (∀ b o, s.heap.get? b = some o → h'.get? b = some o) → EP X pins σ Q (.str d.shown tt) { s with heap := h', toks := tk } :=
    fun h' tt tk k => ⟨.str d.shown, H, I.kept k, ⟨tt, rfl⟩, q⟩
  have go : ∀ a, u = .ref a → wpAny (model X.prog X.w) X.A (call (.builtin "repr") [u]) (EP X pins σ Q) X.xe s := by
    intro a e
    subst e
    exact repr_of_reads' rr hsh (fun z => absurd z (by rw [hdi]; decide)) hgd (by omega) (fun _ _ e => e) (fun h' tt tk k => fin h' tt tk k) hsz
  cases rr with
  | none => exact PySem.P.repr_of_none (fin _ _ _ fun _ _ e => e)
  | bool b => exact PySem.P.repr_of_bool (fin _ _ _ fun _ _ e => e)
  | int i t =>
    have hb : i.natAbs.log2 < 1920 := by simpa [PyData.showable] using hsh
    exact PySem.P.repr_of_int hb (fin _ _ _ fun _ _ e => e)
  | str y t => exact PySem.P.repr_of_str (fin _ _ _ fun _ _ e => e) (by simpa [PyData.shown] using hsz)
  | list => exact go _ rfl
  | tuple => exact go _ rfl
  | dict => exact go _ rfl
end Pg

set_option Elab.async false
set_option linter.all false
set_option maxRecDepth 100000
set_option maxHeartbeats 2000000
namespace Pd
open PySem PySem.Spec PyProof.Rows L2

/-! ### a value for a name: a datum, or a new list of one's own -/
def SlV (W : Wo) (H G' H' : Hp) (v : V) : Sl → Prop
  | .dat d => Dr W.K G' v d
  | .mu ds => ∃ a xs, v = .ref a ∧ H a = none ∧ H' a = some (.lst xs) ∧ G' a = none ∧ DrAll W.K G' xs ds
  | _ => False
def VD (Γ : Cn) (te : TE) (δ : List Sl) (P : Sl → Prop) : Prop :=
  ∀ G H σ (Q : VK), At Γ δ G H σ → (∀ v s G' H', Fr Γ.W G H G' H' → Good Γ.W G' H' → SlV Γ.W H G' H' v s → P s → Q v H') → te σ H Q
section
variable {Γ : Cn} {δ : List Sl} {te ta tb tc : TE}
theorem vd_ed {P : Sl → Prop} (h : ED Γ te δ fun d => P (.dat d)) : VD Γ te δ P := fun G H σ Q at_ k => h G H σ Q at_ fun v d G' H' f g r p => k v (.dat d) G' H' f g r p
theorem vd_nl {P : Sl → Prop} (h : NL Γ te δ fun ds => P (.mu ds)) : VD Γ te δ P := fun G H σ Q at_ k => h G H σ Q at_ fun a xs ds G' H' f g h1 h2 h3 r p => k (.ref a) (.mu ds) G' H' f g ⟨a, xs, rfl, h1, h2, h3, r⟩ p
/-- what a slot may be given -/
def OwnV (W : Wo) (H0 G H : Hp) (v : V) : Sl → Prop
  | .dat d => Dr W.K G v d
  | .mu ds => ∃ a xs, v = .ref a ∧ H a = some (.lst xs) ∧ G a = none ∧ H0 a = none ∧ W.M ≠ some a ∧ DrAll W.K G xs ds
  | _ => False
theorem SlV.own {G H G' H' : Hp} {σ : L2.St} {v : V} {s : Sl} (at_ : At Γ δ G H σ) (h : SlV Γ.W H G' H' v s) : OwnV Γ.W Γ.H0 G' H' v s := by
  cases s with
  | dat d => exact h
  | mu ds =>
    obtain ⟨a, xs, h1, h2, h3, h4, h5⟩ := h
    exact ⟨a, xs, h1, h3, h4, at_.h0 h2, at_.gd.nm h2, h5⟩
  | un => exact h.elim
  | slf C fs => exact h.elim
theorem OwnV.step {W : Wo} {H0 G H G' H' : Hp} {v : V} {s : Sl} (h : OwnV W H0 G H v s) (f : Fr W G H G' H') : OwnV W H0 G' H' v s := by
  cases s with
  | dat d => exact Dr.mono f.g h
  | mu ds =>
    obtain ⟨a, xs, h1, h2, h3, h4, h5, h6⟩ := h
    obtain ⟨k1, k2⟩ := f.o a _ h2 h3
    exact ⟨a, xs, h1, k2 h5, k1, h4, h5, h6.mono f.g⟩
  | un => exact h.elim
  | slf C fs => exact h.elim
theorem EnvOk.setS {W : Wo} {H0 G H : Hp} {σ : L2.St} {δ : List Sl} (e : EnvOk W H0 G H σ δ) {i : Nat} {v : V} {s : Sl} (h : OwnV W H0 G H v s)
    (hn : s.own = true → ∀ (j : Nat) (t : Sl), i ≠ j → δ[j]? = some t → t.own = true → σ[j]? ≠ some (some v)) : EnvOk W H0 G H (σ.set i (some v)) (δ.set i s) := by
  cases s with
  | dat d => exact e.set h
  | mu ds =>
    obtain ⟨a, xs, rfl, h2, h3, h4, h5, h6⟩ := h
    exact e.setMu h2 h3 h4 h5 h6 fun j t hj ht to => hn rfl j t hj ht to
  | un => exact h.elim
  | slf C fs => exact h.elim
/-- no slot owns what was new -/
theorem At.apart {G H : Hp} {σ : L2.St} (at_ : At Γ δ G H σ) {a : Addr} (ha : H a = none) : ∀ (j : Nat) (t : Sl), δ[j]? = some t → t.own = true → σ[j]? ≠ some (some (.ref a)) := by
  intro j t ht to z
  cases t with
  | un => cases to
  | dat d => cases to
  | mu ds =>
    obtain ⟨b, ys, k1, k2, _⟩ := at_.env.mu j ds ht
    rw [k1] at z
    cases z
    rw [ha] at k2
    cases k2
  | slf C fds =>
    obtain ⟨b, dx, ys, k1, k2, _⟩ := at_.env.slf j C fds ht
    rw [k1] at z
    cases z
    rw [ha] at k2
    cases k2
theorem SlV.apart {G H G' H' : Hp} {σ : L2.St} {v : V} {s : Sl} (at_ : At Γ δ G H σ) (h : SlV Γ.W H G' H' v s) : s.own = true → ∀ (j : Nat) (t : Sl), δ[j]? = some t → t.own = true → σ[j]? ≠ some (some v) := by
  intro so j t ht to
  cases s with
  | dat d => cases so
  | mu ds =>
    obtain ⟨a, xs, rfl, h2, _⟩ := h
    exact at_.apart h2 j t ht to
  | un => cases so
  | slf C fs => exact h.elim
theorem sd_asgV {i : Nat} {D : De} (h : VD Γ te δ fun s => D.nx (δ.set i s)) : SD Γ (tAsg te (gName i)) δ D := fun G H σ E at_ hn hr hb hc =>
  h G H σ _ at_ fun v s G1 H1 f1 g1 r p => hn _ G1 H1 _ f1.g ⟨at_.fr.trans f1 g1, g1, (at_.env.step f1).setS (r.own at_) fun so j t _ ht to => r.apart at_ so j t ht to⟩ p
theorem SlV.ne {G H G1 H1 G2 H2 : Hp} {σ : L2.St} {v w : V} {s t : Sl} (at_ : At Γ δ G H σ) (h : SlV Γ.W H G1 H1 v s) (h' : SlV Γ.W H1 G2 H2 w t) (so : s.own = true) (to : t.own = true) : v ≠ w := by
  cases s with
  | dat d => cases so
  | un => cases so
  | slf C fs => exact h.elim
  | mu ds =>
    cases t with
    | dat d => cases to
    | un => cases to
    | slf C fs => exact h'.elim
    | mu es =>
      obtain ⟨a, xs, rfl, h2, h3, _⟩ := h
      obtain ⟨b, ys, rfl, k2, k3, _⟩ := h'
      intro z
      cases z
      rw [k2] at h3
      cases h3
theorem sd_par {i j : Nat} {D : De} (hij : i ≠ j) (h : VD Γ ta δ fun s => VD Γ tb δ fun t => D.nx ((δ.set i s).set j t)) : SD Γ (tPar i j (tCons ta (tCons tb tNil))) δ D := fun G H σ E at_ hn hr hb hc =>
  h G H σ _ at_ fun v s G1 H1 f1 g1 r1 p1 => by
    have at1 := at_.step f1 g1
    refine p1 G1 H1 σ _ at1 fun w t G2 H2 f2 g2 r2 p2 => ⟨v, w, rfl, ?_⟩
    refine hn _ G2 H2 _ (f1.g.trans f2.g) ⟨at1.fr.trans f2 g2, g2, ?_⟩ p2
    refine ((at1.env.step f2).setS ((r1.own at_).step f2) fun so j' t' _ ht to => ?_).setS (r2.own at1) fun to k t' hk ht' to' => ?_
    · exact r1.apart at_ so j' t' ht to
    · rw [set_get] at ht' ⊢
      by_cases q : i = k
      · rw [if_pos q] at ht' ⊢
        split at ht'
        · cases ht'
          split
          · intro z
            exact r1.ne at_ r2 to' to (Option.some.inj (Option.some.inj z))
          · intro z
            cases z
        · cases ht'
      · rw [if_neg q] at ht' ⊢
        exact r2.apart at1 to k t' ht' to'

/-! ### an own list becomes the object that callees may change -/
theorem fr_enter {W : Wo} {a : Addr} {J : HO → Prop} {G0 H0 G H : Hp} (hm : W.M = none) (h0 : H0 a = none) (f : Fr ⟨W.K, some a, J⟩ G0 H0 G H) : Fr W G0 H0 G H :=
  ⟨f.g, fun b u e g => by
    obtain ⟨k1, k2⟩ := f.o b u e g
    refine ⟨k1, fun _ => k2 fun z => ?_⟩
    cases z
    rw [h0] at e
    cases e⟩
theorem good_leave {W : Wo} {a : Addr} {J : HO → Prop} {G H : Hp} (hm : W.M = none) (g : Good ⟨W.K, some a, J⟩ G H) : Good W G H := ⟨g.sub, fun b e => by rw [hm] at e; cases e⟩
def Cn.enter (Γ : Cn) (a : Addr) (J : HO → Prop) (hm : Γ.W.M = none) (h0 : Γ.H0 a = none) : Cn where
  W := ⟨Γ.W.K, some a, J⟩
  G0 := Γ.G0
  H0 := Γ.H0
  E := Γ.E
  X := Γ.X
  hE := fun C d fds G H f g x hx => Γ.hE C d fds G H (fr_enter hm h0 f) (good_leave hm g) x hx
theorem sd_enter {i : Nat} {ds : List Dt} {ts : TS} {D : De} (J : HO → Prop) (hm : Γ.W.M = none) (hi : δ[i]? = some (.mu ds)) (hj : ∀ G xs, DrAll Γ.W.K G xs ds → J (.lst xs))
    (h : ∀ a h0, SD (Γ.enter a J hm h0) ts (δ.set i (.dat (.raw (.ref a)))) D) : SD Γ ts δ D := fun G H σ E at_ hn hr hb hc => by
  obtain ⟨a, xs, h1, h2, h3, h4, h5, h6⟩ := at_.env.mu i ds hi
  have hlen : i < δ.length := (List.getElem?_eq_some_iff.mp hi).1
  have env2 : EnvOk ⟨Γ.W.K, some a, J⟩ Γ.H0 G H σ (δ.set i (.dat (.raw (.ref a)))) := {
    len := by rw [List.length_set]; exact at_.env.len
    dat := fun j d hj => by
      rw [set_get] at hj
      by_cases q : i = j
      · rw [if_pos q, if_pos hlen] at hj
        cases hj
        subst q
        exact ⟨.ref a, h1, .raw _⟩
      · rw [if_neg q] at hj
        exact at_.env.dat j d hj
    mu := fun j ds' hj => by
      rw [set_get] at hj
      by_cases q : i = j
      · rw [if_pos q, if_pos hlen] at hj
        cases hj
      · rw [if_neg q] at hj
        obtain ⟨b, ys, k1, k2, k3, k4, k5, k6⟩ := at_.env.mu j ds' hj
        refine ⟨b, ys, k1, k2, k3, k4, fun z => ?_, k6⟩
        cases z
        exact at_.env.sep i j a _ _ q hi hj rfl rfl h1 k1
    slf := fun j C fds hj => by
      rw [set_get] at hj
      by_cases q : i = j
      · rw [if_pos q, if_pos hlen] at hj
        cases hj
      · rw [if_neg q] at hj
        obtain ⟨b, dx, ys, k1, k2, k3, k4, k5, k6, k7, k8, k9, k10⟩ := at_.env.slf j C fds hj
        refine ⟨b, dx, ys, k1, k2, k3, k4, k5, k6, k7, fun z => ?_, fun z => ?_, k10⟩
        · cases z; rw [h2] at k2; cases k2
        · cases z; rw [h2] at k3; cases k3
    sep := fun j k b s t hjk hj hk so to z => by
      rw [set_get] at hj hk
      by_cases q : i = j
      · rw [if_pos q, if_pos hlen] at hj
        cases hj
        cases so
      · rw [if_neg q] at hj
        by_cases q2 : i = k
        · rw [if_pos q2, if_pos hlen] at hk
          cases hk
          cases to
        · rw [if_neg q2] at hk
          exact at_.env.sep j k b s t hjk hj hk so to z }
  have fr2 : Fr ⟨Γ.W.K, some a, J⟩ Γ.G0 Γ.H0 G H := ⟨at_.fr.g, fun b u e g => by
    obtain ⟨k1, k2⟩ := at_.fr.o b u e g
    exact ⟨k1, fun _ => k2 (fun z => by rw [hm] at z; cases z)⟩⟩
  have gd2 : Good ⟨Γ.W.K, some a, J⟩ G H := ⟨at_.gd.sub, fun b e => by cases e; exact ⟨h3, _, h2, hj G xs h6⟩⟩
  have back : ∀ {δ' : List Sl} {G' H' : Hp} {σ' : L2.St}, At (Γ.enter a J hm h4) δ' G' H' σ' → At Γ δ' G' H' σ' := fun {δ' G' H' σ'} z =>
    ⟨fr_enter hm h4 z.fr, good_leave hm z.gd, {
      len := z.env.len
      dat := z.env.dat
      mu := fun j ds' hj => by
        obtain ⟨b, ys, k1, k2, k3, k4, k5, k6⟩ := z.env.mu j ds' hj
        exact ⟨b, ys, k1, k2, k3, k4, (fun z => by rw [hm] at z; cases z), k6⟩
      slf := fun j C fds hj => by
        obtain ⟨b, dx, ys, k1, k2, k3, k4, k5, k6, k7, k8, k9, k10⟩ := z.env.slf j C fds hj
        exact ⟨b, dx, ys, k1, k2, k3, k4, k5, k6, k7, (fun z => by rw [hm] at z; cases z), (fun z => by rw [hm] at z; cases z), k10⟩
      sep := z.env.sep }⟩
  exact h a h4 G H σ E ⟨fr2, gd2, env2⟩ (fun δ' G' H' σ' e z q => hn δ' G' H' σ' e (back z) q) (fun v d G' H' f g r q => hr v d G' H' (fr_enter hm h4 f) (good_leave hm g) r q)
    (fun δ' G' H' σ' e z q => hb δ' G' H' σ' e (back z) q) (fun δ' G' H' σ' e z q => hc δ' G' H' σ' e (back z) q)
end

/-! ### operators, by any data -/
def rAddA (K : PySem.W.Frag) : R2 := fun x y H Q => (rI0 (fun i j => .int (i + j)) x y H Q ∨ ∃ i j, x = .str i ∧ y = .str j ∧ i.length + j.length ≤ sizeLine ∧ Q (.str (i ++ j)) H) ∨ (rCat x y H Q ∨ rCatA K x y H Q)
theorem opAdd {X : Cx} : OpR X (binaryOp .Add) (rAddA X.K) := (op_add.or op_add_str).or (op_cat.or op_catA)
def rMulA : R2 := fun x y H Q => rI CMul (fun i j => .int (i * j)) x y H Q ∨ rRep x y H Q
theorem opMul {X : Cx} : OpR X (binaryOp .Mult) rMulA := op_mul.or op_rep
def rEqA (K : PySem.W.Frag) : R2 := fun x y H Q => rEqD K x y H Q ∨ rEq x y H Q
theorem opEq {X : Cx} (hu : X.A.units + 64 < cLine) : OpR X (compareOp .Eq) (rEqA X.K) := (op_eqD hu).or op_eq
def rNeA (K : PySem.W.Frag) : R2 := fun x y H Q => rNeD K x y H Q ∨ rNe x y H Q
theorem opNe {X : Cx} (hu : X.A.units + 64 < cLine) : OpR X (compareOp .NotEq) (rNeA X.K) := (op_neD hu).or op_ne
def rInA (K : PySem.W.Frag) : R2 := fun x y H Q => (rInD K x y H Q ∨ rIn K false x y H Q) ∨ ((∃ (c : Nat) (z : Str), x = .str ⟨#[c]⟩ ∧ y = .str z ∧ Q (.bl (decide (c ∈ z.cps.toList))) H) ∨ ∃ i j, x = .str i ∧ y = .str j ∧ Q (.bl (!(Builtin.Str.occurrences j i 0 j.length 1).isEmpty)) H)
theorem opIn {X : Cx} (hu : X.A.units + 65 < cLine) : OpR X (compareOp .In) (rInA X.K) := ((op_inD hu).or op_in_seq).or (op_in_sign.or op_in_str)
def rNotInA (K : PySem.W.Frag) : R2 := fun x y H Q => rNotInD K x y H Q ∨ rIn K true x y H Q
theorem opNotIn {X : Cx} (hu : X.A.units + 65 < cLine) : OpR X (compareOp .NotIn) (rNotInA X.K) := (op_notInD hu).or op_notIn_seq
def rSlAny (K : PySem.W.Frag) : V → Option Int → Option Int → Hp → VK → Prop := fun x lo hi H Q => (rSlL K x lo hi H Q ∨ rSlS x lo hi H Q) ∨ rSlA K x lo hi H Q
theorem slAny {X : Cx} : L2.SlR X (rSlAny X.K) := (sl_list.or sl_str).or sl_tupA
section
variable {W : Wo} {P : Dt → Prop}
theorem od_of {r : R2} {x y z : Dt} (h : ∀ G H v w (Q : VK), Good W G H → Dv W G H v x → Dv W G H w y → (∀ u, Dr W.K G u z → Q u H) → r v w H Q) (p : P z) : OD W r x y P := fun G H v w Q g hv hw k =>
  h G H v w Q g hv hw fun u r => k u z G H (Fr.refl _ _ _) g r p
theorem od_addI {i j : Int} (p : P (.int (i + j))) : OD W (rAddA W.K) (.int i) (.int j) P := od_of (fun G H v w Q g hv hw k => by
  cases hv.int; cases hw.int; exact .inl (.inl ⟨i, j, rfl, rfl, k _ (.int _)⟩)) p
theorem od_addS {x y : Str} (hl : x.length + y.length ≤ 100000) (p : P (.str (x ++ y))) : OD W (rAddA W.K) (.str x) (.str y) P := od_of (fun G H v w Q g hv hw k => by
  cases hv.str; cases hw.str; exact .inl (.inr ⟨x, y, rfl, rfl, Nat.le_trans hl (by decide), k _ (.str _)⟩)) p
theorem od_addL {xs ys : List Dt} (hl : xs.length + ys.length ≤ 100000) (p : P (.lst (xs ++ ys))) : OD W (rAddA W.K) (.lst xs) (.lst ys) P := fun G H v w Q g hv hw k => by
  obtain ⟨a, us, rfl, h1, r1⟩ := hv.lst g
  obtain ⟨b, ws, rfl, h2, r2⟩ := hw.lst g
  refine .inr (.inl ⟨a, b, us, ws, rfl, rfl, h1, h2, by rw [r1.length, r2.length]; exact Nat.le_trans hl (by decide), fun q hq => ?_⟩)
  exact k _ _ (upd G q (.lst (us ++ ws))) _ (Fr.new g hq) (g.new hq) (.lst upd_same ((r1.append r2).mono (same_new (g.gn hq)))) p
theorem od_addT {xs ys : List Dt} (hl : xs.length + ys.length ≤ 100000) (p : P (.tup (xs ++ ys))) : OD W (rAddA W.K) (.tup xs) (.tup ys) P := fun G H v w Q g hv hw k => by
  obtain ⟨a, us, rfl, h1, r1⟩ := hv.tup
  obtain ⟨b, ws, rfl, h2, r2⟩ := hw.tup
  refine .inr (.inr ⟨a, b, us, ws, rfl, rfl, sqT_mono g.sub h1, sqT_mono g.sub h2, by rw [r1.length, r2.length]; exact Nat.le_trans hl (by decide), fun e => ?_, fun e e2 => ?_, fun e e2 q hq => ?_⟩)
  · subst e
    cases r1
    exact k _ _ G H (Fr.refl _ _ _) g (.tup h2 r2) p
  · subst e2
    cases r2
    rw [List.append_nil] at p
    exact k _ _ G H (Fr.refl _ _ _) g (.tup h1 r1) p
  · exact k _ _ (upd G q (.tup (us ++ ws))) _ (Fr.new g hq) (g.new hq) (.tup (.inl (.inl upd_same)) ((r1.append r2).mono (same_new (g.gn hq)))) p
theorem od_I0 {f : Int → Int → V} {i j : Int} {z : Dt} (hz : ∀ G, Dr W.K G (f i j) z) (p : P z) : OD W (rI0 f) (.int i) (.int j) P := od_of (fun G H v w Q g hv hw k => by
  cases hv.int; cases hw.int; exact ⟨i, j, rfl, rfl, k _ (hz G)⟩) p
theorem od_I {C : Int → Int → Prop} {f : Int → Int → V} {i j : Int} {z : Dt} (hc : C i j) (hz : ∀ G, Dr W.K G (f i j) z) (p : P z) : OD W (rI C f) (.int i) (.int j) P := od_of (fun G H v w Q g hv hw k => by
  cases hv.int; cases hw.int; exact ⟨i, j, rfl, rfl, hc, k _ (hz G)⟩) p
theorem od_subI {i j : Int} (p : P (.int (i - j))) : OD W (rI0 fun i j => .int (i - j)) (.int i) (.int j) P := od_I0 (fun _ => .int _) p
theorem od_lt {i j : Int} (p : P (.bl (decide (i < j)))) : OD W (rI0 fun i j => .bl (decide (i < j))) (.int i) (.int j) P := od_I0 (fun _ => .bl _) p
theorem od_le {i j : Int} (p : P (.bl (decide (i ≤ j)))) : OD W (rI0 fun i j => .bl (decide (i ≤ j))) (.int i) (.int j) P := od_I0 (fun _ => .bl _) p
theorem od_gt {i j : Int} (p : P (.bl (decide (j < i)))) : OD W (rI0 fun i j => .bl (decide (j < i))) (.int i) (.int j) P := od_I0 (fun _ => .bl _) p
theorem od_ge {i j : Int} (p : P (.bl (decide (j ≤ i)))) : OD W (rI0 fun i j => .bl (decide (j ≤ i))) (.int i) (.int j) P := od_I0 (fun _ => .bl _) p
theorem od_mulI {i j : Int} (hc : CMul i j) (p : P (.int (i * j))) : OD W rMulA (.int i) (.int j) P := od_of (fun G H v w Q g hv hw k => by
  cases hv.int; cases hw.int; exact .inl ⟨i, j, rfl, rfl, hc, k _ (.int _)⟩) p
theorem od_rep {xs : List Dt} {n : Nat} (hl : xs.length * n ≤ 100000) (hn : n ≤ 100000) (p : P (.lst (List.replicate n xs).flatten)) : OD W rMulA (.lst xs) (.int (n : Int)) P := fun G H v w Q g hv hw k => by
  obtain ⟨a, us, rfl, h1, r1⟩ := hv.lst g
  cases hw.int
  refine .inr ⟨a, (n : Int), us, rfl, rfl, h1, by omega, by omega, by rw [r1.length, Int.toNat_natCast]; exact Nat.le_trans hl (by decide), fun q hq => ?_⟩
  rw [Int.toNat_natCast]
  exact k _ _ (upd G q (.lst (List.replicate n us).flatten)) _ (Fr.new g hq) (g.new hq) (.lst upd_same ((r1.replicate n).mono (same_new (g.gn hq)))) p
theorem od_mod {i j : Int} (hj : 0 < j) (p : P (.int (i % j))) : OD W (rI (fun _ j => 0 < j) fun i j => .int (i % j)) (.int i) (.int j) P := od_I (C := fun _ j => 0 < j) hj (fun _ => .int _) p
theorem od_div {i j : Int} (hc : CDivW i j) (p : P (.int (i / j))) : OD W (rI CDivW fun i j => .int (i / j)) (.int i) (.int j) P := od_I hc (fun _ => .int _) p
theorem od_pow {i j : Int} (hc : CPow i j) (p : P (.int (i ^ j.toNat))) : OD W (rI CPow fun i j => .int (i ^ j.toNat)) (.int i) (.int j) P := od_I hc (fun _ => .int _) p
/-! == and in -/
theorem od_eq {x y : Dt} {p q : PyData} (hx : toPy x = some p) (hy : toPy y = some q) (sp : SeqAt.shaped p = true) (sq : SeqAt.shaped q = true) (k0 : P (.bl (PyData.eqv p q))) : OD W (rEqA W.K) x y P := od_of (fun G H v w Q g hv hw k =>
  .inl ⟨p, q, (hv.dr g).dp hx, (hw.dr g).dp hy, sp, sq, k _ (.bl _)⟩) k0
theorem od_ne {x y : Dt} {p q : PyData} (hx : toPy x = some p) (hy : toPy y = some q) (sp : SeqAt.shaped p = true) (sq : SeqAt.shaped q = true) (k0 : P (.bl (!PyData.eqv p q))) : OD W (rNeA W.K) x y P := od_of (fun G H v w Q g hv hw k =>
  .inl ⟨p, q, (hv.dr g).dp hx, (hw.dr g).dp hy, sp, sq, k _ (.bl _)⟩) k0
theorem od_eqS {x y : Str} (k0 : P (.bl (decide (x = y)))) : OD W (rEqA W.K) (.str x) (.str y) P := od_of (fun G H v w Q g hv hw k => by
  cases hv.str; cases hw.str
  refine .inr ⟨rfl, ?_⟩
  have e : decide (V.str x = V.str y) = decide (x = y) := by
    by_cases h : x = y
    · rw [decide_eq_true h, decide_eq_true (congrArg V.str h)]
    · rw [decide_eq_false h, decide_eq_false (fun z => h (V.str.inj z))]
  rw [e]
  exact k _ (.bl _)) k0
theorem od_neS {x y : Str} (k0 : P (.bl (!decide (x = y)))) : OD W (rNeA W.K) (.str x) (.str y) P := od_of (fun G H v w Q g hv hw k => by
  cases hv.str; cases hw.str
  refine .inr ⟨rfl, ?_⟩
  have e : decide (V.str x = V.str y) = decide (x = y) := by
    by_cases h : x = y
    · rw [decide_eq_true h, decide_eq_true (congrArg V.str h)]
    · rw [decide_eq_false h, decide_eq_false (fun z => h (V.str.inj z))]
  rw [e]
  exact k _ (.bl _)) k0
theorem od_eqI {x y : Int} (k0 : P (.bl (decide (x = y)))) : OD W (rEqA W.K) (.int x) (.int y) P := od_of (fun G H v w Q g hv hw k => by
  cases hv.int; cases hw.int
  refine .inr ⟨rfl, ?_⟩
  have e : decide (V.int x = V.int y) = decide (x = y) := by
    by_cases h : x = y
    · rw [decide_eq_true h, decide_eq_true (congrArg V.int h)]
    · rw [decide_eq_false h, decide_eq_false (fun z => h (V.int.inj z))]
  rw [e]
  exact k _ (.bl _)) k0
theorem od_neI {x y : Int} (k0 : P (.bl (!decide (x = y)))) : OD W (rNeA W.K) (.int x) (.int y) P := od_of (fun G H v w Q g hv hw k => by
  cases hv.int; cases hw.int
  refine .inr ⟨rfl, ?_⟩
  have e : decide (V.int x = V.int y) = decide (x = y) := by
    by_cases h : x = y
    · rw [decide_eq_true h, decide_eq_true (congrArg V.int h)]
    · rw [decide_eq_false h, decide_eq_false (fun z => h (V.int.inj z))]
  rw [e]
  exact k _ (.bl _)) k0
theorem od_inL {x : Dt} {ys : List Dt} {p : PyData} {qs : List PyData} (hx : toPy x = some p) (hy : toPys ys = some qs) (sp : SeqAt.shaped p = true) (sq : SeqAt.shaped (.list qs) = true) (k0 : P (.bl (qs.any fun z => PyData.eqv z p))) : OD W (rInA W.K) x (.lst ys) P := od_of (fun G H v w Q g hv hw k =>
  .inl (.inl ⟨p, qs, (hv.dr g).dp hx, (hw.dr g).dp (by simp only [toPy, hy, Option.map_some]), sp, sq, k _ (.bl _)⟩)) k0
theorem od_notInL {x : Dt} {ys : List Dt} {p : PyData} {qs : List PyData} (hx : toPy x = some p) (hy : toPys ys = some qs) (sp : SeqAt.shaped p = true) (sq : SeqAt.shaped (.list qs) = true) (k0 : P (.bl (!qs.any fun z => PyData.eqv z p))) : OD W (rNotInA W.K) x (.lst ys) P := od_of (fun G H v w Q g hv hw k =>
  .inl ⟨p, qs, (hv.dr g).dp hx, (hw.dr g).dp (by simp only [toPy, hy, Option.map_some]), sp, sq, k _ (.bl _)⟩) k0
theorem od_inSign {c : Nat} {z : Str} (k0 : P (.bl (decide (c ∈ z.cps.toList)))) : OD W (rInA W.K) (.str ⟨#[c]⟩) (.str z) P := od_of (fun G H v w Q g hv hw k => by
  cases hv.str; cases hw.str; exact .inr (.inl ⟨c, z, rfl, rfl, k _ (.bl _)⟩)) k0
/-! items -/
theorem od_ixL {xs : List Dt} {j : Nat} {d : Dt} (h : xs[j]? = some d) (p : P d) : OD W (rIx W.K) (.lst xs) (.int (j : Int)) P := od_of (fun G H v w Q g hv hw k => by
  obtain ⟨a, us, rfl, h1, r1⟩ := hv.lst g
  cases hw.int
  obtain ⟨u, hu, r⟩ := r1.getD h
  exact .inl ⟨a, us, (j : Int), u, rfl, rfl, SqL.of h1, atI_nat hu, k _ r⟩) p
theorem od_ixT {xs : List Dt} {j : Nat} {d : Dt} (h : xs[j]? = some d) (p : P d) : OD W (rIx W.K) (.tup xs) (.int (j : Int)) P := od_of (fun G H v w Q g hv hw k => by
  obtain ⟨a, us, rfl, h1, r1⟩ := hv.tup
  cases hw.int
  obtain ⟨u, hu, r⟩ := r1.getD h
  exact .inr (.inl ⟨a, us, (j : Int), u, rfl, rfl, sqT_mono g.sub h1, atI_nat hu, k _ r⟩)) p
theorem od_ixS {z : Str} {j c : Nat} (hz : z.length ≤ 100000) (h : z.cps.toList[j]? = some c) (p : P (.str ⟨#[c]⟩)) : OD W (rIx W.K) (.str z) (.int (j : Int)) P := od_of (fun G H v w Q g hv hw k => by
  cases hv.str
  cases hw.int
  exact .inr (.inr ⟨z, (j : Int), c, rfl, rfl, Nat.le_trans hz (by decide), atI_nat h, k _ (.str _)⟩)) p
theorem od_ixScr {ns : List Int} {j : Nat} {n : Int} (h : ns[j]? = some n) (p : P (.int n)) : OD W (rIx W.K) (.scr ns) (.int (j : Int)) P := od_of (fun G H v w Q g hv hw k => by
  cases hw.int
  rcases hv with hv | ⟨a, xs, ds, h1, h2, _⟩
  · cases hv with
    | scr h1 => exact .inl ⟨_, _, (j : Int), .int n, rfl, rfl, g.sub.seq h1, atI_nat (by rw [List.getElem?_map, h]; rfl), k _ (.int _)⟩
  · cases h2) p
end
section
variable {Γ : Cn} {δ : List Sl} {te ta tb tc : TE} {P : Dt → Prop}
/-! slices -/
def OdP (Γ : Cn) (t : TO) (δ : List Sl) (P : Option Int → Prop) : Prop := ∀ G H σ (Q : Option Int → Hp → Prop), At Γ δ G H σ → (∀ o G' H', Fr Γ.W G H G' H' → Good Γ.W G' H' → P o → Q o H') → t σ H Q
theorem op_none {P : Option Int → Prop} (p : P none) : OdP Γ tNoPart δ P := fun G H σ Q at_ k => k none G H (Fr.refl _ _ _) at_.gd p
theorem op_some {P : Option Int → Prop} (h : ED Γ te δ fun d => ∃ i, d = .int i ∧ P (some i)) : OdP Γ (tPart te) δ P := fun G H σ Q at_ k =>
  h G H σ _ at_ fun v d G1 H1 f1 g1 r ⟨i, e, p⟩ => by subst e; cases r; exact ⟨i, rfl, k (some i) G1 H1 f1 g1 p⟩
theorem drall_ints {K : PySem.W.Frag} {G : Hp} : ∀ ns : List Int, DrAll K G (ns.map V.int) (ns.map Dt.int)
  | [] => .nil
  | n :: ns => .cons (.int n) (drall_ints ns)
def cutD {α : Type} (xs : List α) (lo hi : Option Int) : List α := (xs.drop (HT.sIx xs.length 0 lo)).take (HT.sIx xs.length xs.length hi - HT.sIx xs.length 0 lo)
theorem DrAll.cut {K : PySem.W.Frag} {G : Hp} {xs : List V} {ds : List Dt} (h : DrAll K G xs ds) (lo hi : Option Int) : DrAll K G (cutV xs lo hi) (cutD ds lo hi) := by
  unfold cutV cutD
  rw [h.length]
  exact (h.drop _).take _
theorem ed_sl {tl th : TO} (h : RD Γ te δ fun x => OdP Γ tl δ fun lo => OdP Γ th δ fun hi => (∃ ds, x = .lst ds ∧ P (.lst (cutD ds lo hi))) ∨ (∃ z, x = .str z ∧ z.length ≤ 100000 ∧ P (.str (cutS z lo hi))) ∨ (∃ ds, x = .tup ds ∧ P (.tup (cutD ds lo hi))) ∨ ∃ ns, x = .scr ns ∧ P (.lst ((cutD ns lo hi).map Dt.int))) :
    ED Γ (tSl (rSlAny Γ.W.K) te tl th) δ P := fun G H σ Q at_ k =>
  h G H σ _ at_ fun v x G1 H1 f1 g1 d1 p1 => p1 G1 H1 σ _ (at_.step f1 g1) fun lo G2 H2 f2 g2 p2 => p2 G2 H2 σ _ ((at_.step f1 g1).step f2 g2) fun hi G3 H3 f3 g3 p3 => by
    have f := (f1.trans f2 g2).trans f3 g3
    have d3 := (d1.step f2).step f3
    rcases p3 with ⟨ds, rfl, p⟩ | ⟨z, rfl, hz, p⟩ | ⟨ds, rfl, p⟩ | ⟨ns, rfl, p⟩
    · obtain ⟨a, us, rfl, h1, r1⟩ := d3.lst g3
      refine .inl (.inl ⟨a, us, rfl, SqL.of h1, fun q hq => ?_⟩)
      exact k _ _ (upd G3 q (.lst (cutV us lo hi))) _ (f.trans (Fr.new g3 hq) (g3.new hq)) (g3.new hq) (.lst upd_same ((r1.cut lo hi).mono (same_new (g3.gn hq)))) p
    · cases d3.str
      exact .inl (.inr ⟨z, rfl, Nat.le_trans hz (by decide), k _ _ G3 H3 f g3 (.str _) p⟩)
    · obtain ⟨a, us, rfl, h1, r1⟩ := d3.tup
      refine .inr ⟨a, us, rfl, sqT_mono g3.sub h1, fun e => ?_, fun e q hq => ?_⟩
      · have z : cutD ds lo hi = ds := by
          unfold cutD
          rw [← r1.length, e.1, e.2, Nat.sub_zero, List.drop_zero, r1.length, List.take_length]
        rw [z] at p
        exact k _ _ G3 H3 f g3 (.tup h1 r1) p
      · exact k _ _ (upd G3 q (.tup (cutV us lo hi))) _ (f.trans (Fr.new g3 hq) (g3.new hq)) (g3.new hq) (.tup (.inl (.inl upd_same)) ((r1.cut lo hi).mono (same_new (g3.gn hq)))) p
    · rcases d3 with d3 | ⟨a, xs, ds, h1, h2, _⟩
      · cases d3 with
        | @scr a _ h1 =>
          refine .inl (.inl ⟨a, ns.map V.int, rfl, g3.sub.seq h1, fun q hq => ?_⟩)
          have ec : cutV (ns.map V.int) lo hi = (cutD ns lo hi).map V.int := by
            unfold cutV cutD
            rw [List.length_map, List.map_take, List.map_drop]
          rw [ec]
          exact k _ _ (upd G3 q (.lst ((cutD ns lo hi).map V.int))) _ (f.trans (Fr.new g3 hq) (g3.new hq)) (g3.new hq) (.lst upd_same (drall_ints _)) p
      · cases h2
theorem nl_sl {tl th : TO} {P : List Dt → Prop} (h : RD Γ te δ fun x => OdP Γ tl δ fun lo => OdP Γ th δ fun hi => ∃ ds, x = .lst ds ∧ P (cutD ds lo hi)) :
    NL Γ (tSl (rSlAny Γ.W.K) te tl th) δ P := fun G H σ Q at_ k =>
  h G H σ _ at_ fun v x G1 H1 f1 g1 d1 p1 => p1 G1 H1 σ _ (at_.step f1 g1) fun lo G2 H2 f2 g2 p2 => p2 G2 H2 σ _ ((at_.step f1 g1).step f2 g2) fun hi G3 H3 f3 g3 p3 => by
    have f := (f1.trans f2 g2).trans f3 g3
    have d3 := (d1.step f2).step f3
    obtain ⟨ds, rfl, p⟩ := p3
    obtain ⟨a, us, rfl, h1, r1⟩ := d3.lst g3
    refine .inl (.inl ⟨a, us, rfl, SqL.of h1, fun q hq => ?_⟩)
    exact k q _ _ G3 _ (f.trans (Fr.newM g3 hq) (g3.setM (g3.gn hq) (g3.nm hq))) (g3.setM (g3.gn hq) (g3.nm hq)) (fr_back f g3 hq) upd_same (g3.gn hq) (r1.cut lo hi) p
/-! calls of built-ins -/
variable {W : Wo}
theorem cd_of {rc : List V → Hp → VK → Prop} {ds : List Dt} {z : Dt} (h : ∀ G H vs (Q : VK), Good W G H → DvAll W G H vs ds → (∀ u, Dr W.K G u z → Q u H) → rc vs H Q) (p : P z) : CD W rc ds P := fun G H vs Q g hv k =>
  h G H vs Q g hv fun u r => k u z G H (Fr.refl _ _ _) g r p
theorem dv1 {G H : Hp} {vs : List V} {x : Dt} (h : DvAll W G H vs [x]) : ∃ v, vs = [v] ∧ Dv W G H v x := by
  cases h with
  | cons a b => cases b; exact ⟨_, rfl, a⟩
theorem dv2 {G H : Hp} {vs : List V} {x y : Dt} (h : DvAll W G H vs [x, y]) : ∃ v w, vs = [v, w] ∧ Dv W G H v x ∧ Dv W G H w y := by
  cases h with
  | cons a b =>
    obtain ⟨w, rfl, r⟩ := dv1 b
    exact ⟨_, w, rfl, a, r⟩
theorem drall_bl {K : PySem.W.Frag} {G : Hp} : ∀ {xs : List V} {bs : List Bool}, DrAll K G xs (bs.map Dt.bl) → xs = bs.map V.bl
  | _, [], h => by cases h; rfl
  | _, b :: bs, h => by
    cases h with
    | cons r t => cases r; rw [drall_bl t]; rfl
theorem drall_int {K : PySem.W.Frag} {G : Hp} : ∀ {xs : List V} {bs : List Int}, DrAll K G xs (bs.map Dt.int) → xs = bs.map V.int
  | _, [], h => by cases h; rfl
  | _, b :: bs, h => by
    cases h with
    | cons r t => cases r; rw [drall_int t]; rfl
theorem drall_str {K : PySem.W.Frag} {G : Hp} : ∀ {xs : List V} {bs : List Str}, DrAll K G xs (bs.map Dt.str) → xs = bs.map V.str
  | _, [], h => by cases h; rfl
  | _, b :: bs, h => by
    cases h with
    | cons r t => cases r; rw [drall_str t]; rfl
def rLen (K : PySem.W.Frag) : List V → Hp → VK → Prop := fun xs H Q => ∃ x n, xs = [x] ∧ LenV K x H n ∧ Q (.int n) H
theorem callLen {X : Cx} : CallR X (.builtin "len") (rLen X.K) := call_len
theorem cd_lenS {z : Str} (hz : z.length ≤ 100000) (p : P (.int (z.length : Nat))) : CD W (rLen W.K) [.str z] P := cd_of (fun G H vs Q g hv k => by
  obtain ⟨v, rfl, r⟩ := dv1 hv
  cases r.str
  exact ⟨_, _, rfl, ⟨Nat.le_trans hz (by decide), rfl⟩, k _ (.int _)⟩) p
theorem cd_lenL {xs : List Dt} (p : P (.int (xs.length : Nat))) : CD W (rLen W.K) [.lst xs] P := cd_of (fun G H vs Q g hv k => by
  obtain ⟨v, rfl, r⟩ := dv1 hv
  obtain ⟨a, us, rfl, h1, r1⟩ := r.lst g
  refine ⟨_, us.length, rfl, .inl ⟨us, SqL.of h1, rfl⟩, ?_⟩
  rw [r1.length]
  exact k _ (.int _)) p
theorem cd_lenT {xs : List Dt} (p : P (.int (xs.length : Nat))) : CD W (rLen W.K) [.tup xs] P := cd_of (fun G H vs Q g hv k => by
  obtain ⟨v, rfl, r⟩ := dv1 hv
  obtain ⟨a, us, rfl, h1, r1⟩ := r.tup
  refine ⟨_, us.length, rfl, .inr ⟨us, sqT_mono g.sub h1, rfl⟩, ?_⟩
  rw [r1.length]
  exact k _ (.int _)) p
theorem cd_lenScr {ns : List Int} (p : P (.int (ns.length : Nat))) : CD W (rLen W.K) [.scr ns] P := cd_of (fun G H vs Q g hv k => by
  obtain ⟨v, rfl, r⟩ := dv1 hv
  rcases r with r | ⟨a, xs, ds, h1, h2, _⟩
  · cases r with
    | scr h1 => exact ⟨_, ns.length, rfl, .inl ⟨_, g.sub.seq h1, by rw [List.length_map]⟩, k _ (.int _)⟩
  · cases h2) p
def rInt1 : List V → Hp → VK → Prop := fun xs H Q => (∃ i, xs = [.int i] ∧ Q (.int i) H) ∨ ∃ k, xs = [.bl k] ∧ Q (.int (if k then 1 else 0)) H
theorem callInt {X : Cx} : CallR X (.type "int") rInt1 := call_int1
theorem cd_int {i : Int} (p : P (.int i)) : CD W rInt1 [.int i] P := cd_of (fun G H vs Q g hv k => by
  obtain ⟨v, rfl, r⟩ := dv1 hv
  cases r.int
  exact .inl ⟨i, rfl, k _ (.int _)⟩) p
theorem cd_intB {b : Bool} (p : P (.int (if b then 1 else 0))) : CD W rInt1 [.bl b] P := cd_of (fun G H vs Q g hv k => by
  obtain ⟨v, rfl, r⟩ := dv1 hv
  cases r.bl
  exact .inr ⟨b, rfl, k _ (.int _)⟩) p
def rAbs : List V → Hp → VK → Prop := fun xs H Q => ∃ i, xs = [.int i] ∧ Q (.int (if i < 0 then -i else i)) H
theorem callAbs {X : Cx} : CallR X (.builtin "abs") rAbs := call_abs
theorem cd_abs {i : Int} (p : P (.int (if i < 0 then -i else i))) : CD W rAbs [.int i] P := cd_of (fun G H vs Q g hv k => by
  obtain ⟨v, rfl, r⟩ := dv1 hv
  cases r.int
  exact ⟨i, rfl, k _ (.int _)⟩) p
def rMax2 : List V → Hp → VK → Prop := fun xs H Q => ∃ i j, xs = [.int i, .int j] ∧ Q (.int (if j > i then j else i)) H
def rMin2 : List V → Hp → VK → Prop := fun xs H Q => ∃ i j, xs = [.int i, .int j] ∧ Q (.int (if j < i then j else i)) H
theorem callMax2 {X : Cx} (hc : X.calm = true) : CallR X (.builtin "max") rMax2 := call_max2 hc
theorem callMin2 {X : Cx} (hc : X.calm = true) : CallR X (.builtin "min") rMin2 := call_min2 hc
theorem cd_max2 {i j : Int} (p : P (.int (if j > i then j else i))) : CD W rMax2 [.int i, .int j] P := cd_of (fun G H vs Q g hv k => by
  obtain ⟨v, w, rfl, r, r2⟩ := dv2 hv
  cases r.int; cases r2.int
  exact ⟨i, j, rfl, k _ (.int _)⟩) p
theorem cd_min2 {i j : Int} (p : P (.int (if j < i then j else i))) : CD W rMin2 [.int i, .int j] P := cd_of (fun G H vs Q g hv k => by
  obtain ⟨v, w, rfl, r, r2⟩ := dv2 hv
  cases r.int; cases r2.int
  exact ⟨i, j, rfl, k _ (.int _)⟩) p
theorem cd_all {bs : List Bool} (p : P (.bl (bs.all id))) : CD W (rAll W.K) [.lst (bs.map Dt.bl)] P := cd_of (fun G H vs Q g hv k => by
  obtain ⟨v, rfl, r⟩ := dv1 hv
  obtain ⟨a, us, rfl, h1, r1⟩ := r.lst g
  have := drall_bl r1
  subst this
  exact ⟨a, bs, rfl, SqL.of h1, k _ (.bl _)⟩) p
theorem cd_any {bs : List Bool} (p : P (.bl (bs.any id))) : CD W (rAny W.K) [.lst (bs.map Dt.bl)] P := cd_of (fun G H vs Q g hv k => by
  obtain ⟨v, rfl, r⟩ := dv1 hv
  obtain ⟨a, us, rfl, h1, r1⟩ := r.lst g
  have := drall_bl r1
  subst this
  exact ⟨a, bs, rfl, SqL.of h1, k _ (.bl _)⟩) p
theorem cd_repr {x : Dt} {d : PyData} (hx : toPy x = some d) (h1 : d.showable = true) (h2 : d.hasDict = false) (h3 : d.depth ≤ 60) (h4 : d.shown.length ≤ 10000000) (p : P (.str d.shown)) : CD W (Pg.rRepr W.K) [x] P := cd_of (fun G H vs Q g hv k => by
  obtain ⟨v, rfl, r⟩ := dv1 hv
  exact ⟨v, d, rfl, (r.dr g).dp hx, h1, h2, h3, Nat.le_trans h4 (by decide), k _ (.str _)⟩) p
/-! isinstance -/
def tyD : Dt → Option String
  | .non => some "NoneType"
  | .bl _ => some "bool"
  | .int _ => some "int"
  | .str _ => some "str"
  | .tup _ => some "tuple"
  | .lst _ => some "list"
  | .dct _ => some "dict"
  | _ => none
theorem ty_of {G H : Hp} {v : V} {d : Dt} {T : String} (g : Good W G H) (h : Dv W G H v d) (e : tyD d = some T) : TyX W.K H v (.type T) := by
  have h := h.dr g
  cases h with
  | non => cases e; exact .base .non
  | bl b => cases e; exact .base (.bl b)
  | int i => cases e; exact .base (.int i)
  | str x => cases e; exact .base (.str x)
  | tup h1 h2 =>
    cases e
    rcases h1 with (h1 | ⟨o, h1⟩) | ⟨o, its, n, h1, h2, h3⟩
    · exact .base (.tup h1)
    · exact .fTuple h1
    · exact .kTuple h1 h2
  | lst h1 h2 => cases e; exact .base (.lst h1)
  | scr h1 => cases e
  | dct h1 => cases e; exact .base (.dK h1)
  | raw v => cases e
  | obj h1 h2 h3 => cases e
theorem cd_isi {x : Dt} {t T : String} {b : Bool} (ht : tyD x = some t) (hk : kitB t T = some b) (p : P (.bl b)) : CD W (rIsi W.K) [x, .raw (.ty T)] P := cd_of (fun G H vs Q g hv k => by
  obtain ⟨v, w, rfl, r, r2⟩ := dv2 hv
  cases r2.raw
  exact ⟨v, .ty T, .type t, .type T, b, rfl, .ty T, ty_of g r ht, kit_ty hk, k _ (.bl _)⟩) p
/-! texts -/
theorem ed_join (h : ED Γ ta δ fun x => ∃ a, x = .str a ∧ RD Γ tb δ fun y => ∃ ys : List Str, y = .lst (ys.map Dt.str) ∧ (ys.map (·.length)).sum + ys.length * a.length ≤ 1000000 ∧ P (.str (Txt.join a ys))) :
    ED Γ (tM1 (fun x xs H Q => ∃ a p, ∃ ys : List Str, x = .str a ∧ xs = [.ref p] ∧ (SqL Γ.W.K H p (ys.map V.str) ∨ SqT Γ.W.K H p (ys.map V.str)) ∧ (ys.map (·.length)).sum + ys.length * a.length ≤ 16777216 ∧ Q (.str (Txt.join a ys)) H) ta tb) δ P := fun G H σ Q at_ k =>
  h G H σ _ at_ fun v x G1 H1 f1 g1 d1 ⟨a, e, p1⟩ => by
    subst e
    cases d1
    refine ⟨⟨a, rfl⟩, p1 G1 H1 σ _ (at_.step f1 g1) fun w y G2 H2 f2 g2 d2 ⟨ys, e, hz, p⟩ => ?_⟩
    subst e
    obtain ⟨l, us, rfl, h1, r1⟩ := d2.lst g2
    have := drall_str r1
    subst this
    exact ⟨a, l, ys, rfl, rfl, .inl (SqL.of h1), Nat.le_trans hz (by decide), k _ _ G2 H2 (f1.trans f2 g2) g2 (.str _) p⟩
end
end Pd

set_option Elab.async false
set_option linter.all false
set_option maxRecDepth 100000
set_option maxHeartbeats 2000000
namespace Pd
open PySem PySem.Spec PyProof.Rows L2
theorem _root_.L2.Room.units65 {k : Nat} {A : Around} (r : Room k A) : A.units + 65 < cLine := by
  have := r.un
  omega
/-- a def of the module, by its name, with its promise -/
structure Cl (P : Program) (w : World) (K : PySem.W.Frag) (mg : Str → Option Value) (base : Heap) (k : Nat) (x : Str) (sp : Sp) : Prop where
  ex : ∃ (f : Addr) (fd : FuncData) (ps : List Str), FnOk P w K mg base L2.CX0 k f fd ps sp ∧ mg x = some (.ref f) ∧ PySem.W.keepIn K (.ref f) = true ∧ Binds K fd ps []
structure ClG (P : Program) (w : World) (K : PySem.W.Frag) (mg : Str → Option Value) (base : Heap) (k : Nat) (x : Str) (sp : Sp) : Prop where
  ex : ∃ (f : Addr) (fd : FuncData) (ps : List Str), Pg.FnG P w K mg base k f fd ps sp ∧ mg x = some (.ref f) ∧ PySem.W.keepIn K (.ref f) = true ∧ Binds K fd ps []
/-- .. called with all its parameters by their names, in their order -/
structure ClK (P : Program) (w : World) (K : PySem.W.Frag) (mg : Str → Option Value) (base : Heap) (k : Nat) (x : Str) (ps : List Str) (sp : Sp) : Prop where
  ex : ∃ (f : Addr) (fd : FuncData), FnOk P w K mg base L2.CX0 k f fd ps sp ∧ mg x = some (.ref f) ∧ PySem.W.keepIn K (.ref f) = true ∧ ∀ (s : Shared) (us : List Value), us.length = ps.length → BindsTo s fd ⟨[], ps.zip us⟩ (ps.zip us)
section
variable {X : Cx} {j k : Nat} {x : Str} {sp : Sp} {p pos : Pos} {e : Expr} {es : List Expr} {t tk : TA} {kws : List Keyword} {ps : List Str}
theorem pe_cl (c : Cl X.prog X.w X.K X.mg X.base k x sp) (hr : Room j X.A) (hk : k ≤ j) (hg : Gl X x) (ha : PA X (e :: es) t) (hdb : (x == ("__debug__" : Str)) = false := by decide)
    (he : starEach (e :: es) X.env = (false, eval e X.env) :: starEach es X.env := by rfl) (hpl : (backTo pos (starEach es X.env)).any (·.1) = false := by rfl) : PE X (.Call (.Name x p) (e :: es) [] pos) (tCall sp [] L2.E0 t) := by
  obtain ⟨f, fd, ps, F, h1, h2, h3⟩ := c.ex
  exact pe_call F (hr.mono hk) hg h1 h2 h3 .nil L2.pass0 ha hdb he hpl
theorem pe_clG (c : ClG X.prog X.w X.K X.mg X.base k x sp) (hgd : X.A.guards = some []) (hr : Room j X.A) (hk : k ≤ j) (hg : Gl X x) (ha : PA X (e :: es) t) (hdb : (x == ("__debug__" : Str)) = false := by decide)
    (he : starEach (e :: es) X.env = (false, eval e X.env) :: starEach es X.env := by rfl) (hpl : (backTo pos (starEach es X.env)).any (·.1) = false := by rfl) : PE X (.Call (.Name x p) (e :: es) [] pos) (tCall sp [] L2.E0 t) := by
  obtain ⟨f, fd, ps, F, h1, h2, h3⟩ := c.ex
  exact Pg.peG_call F hgd (hr.mono hk) hg h1 h2 h3 ha hdb he hpl
theorem pe_cl0 (c : Cl X.prog X.w X.K X.mg X.base k x sp) (hr : Room j X.A) (hk : k ≤ j) (hg : Gl X x) (hdb : (x == ("__debug__" : Str)) = false := by decide) : PE X (.Call (.Name x p) [] [] pos) (tCall sp [] L2.E0 tNil) := by
  obtain ⟨f, fd, ps, F, h1, h2, h3⟩ := c.ex
  exact pe_call0 F (hr.mono hk) hg h1 h2 h3 .nil L2.pass0 hdb
theorem pe_clK (c : ClK X.prog X.w X.K X.mg X.base k x ps sp) (hr : Room j X.A) (hk : k ≤ j) (hg : Gl X x) (hkw : PK X kws tk) (hall : (backToKw pos (keywordEach kws X.env)).all (·.1.isSome) = true := by rfl)
    (hks : (backToKw pos (keywordEach kws X.env)).filterMap (·.1) = ps := by rfl) (hdb : (x == ("__debug__" : Str)) = false := by decide)
    (hpl : ((backTo pos (starEach [] X.env)).any (·.1) || (backToKw pos (keywordEach kws X.env)).any (·.1.isNone)) = false := by rfl) : PE X (.Call (.Name x p) [] kws pos) (tCall sp [] L2.E0 tk) := by
  obtain ⟨f, fd, F, h1, h2, h3⟩ := c.ex
  constructor
  intro pins s σ H Q I h
  refine wpAny_Call_Name_kw (ld_glob I hg h1 ?_ hdb)
  refine PySem.W.callWith_KW0 (h₀ := X.base) I.ok.mod.kin h2 hall ?_ hpl
  refine thn (hkw.run pos pins s σ H _ I h) ?_
  intro ws s2 hh
  obtain ⟨zs, H2, I2, rz, q2⟩ := hh
  refine ⟨I2.kIn, ?_⟩
  rw [hks]
  have q' : sp zs H2 Q L2.E0 := by
    have z : sp (zs ++ []) H2 Q L2.E0 := q2
    rw [List.append_nil] at z
    exact z
  have hl : ws.length = ps.length := by rw [← rz.length]; exact F.len _ _ _ _ q'
  refine wpAny_call (codeAny_mono (F.run X.A X.stack s2 H2 ⟨[], ps.zip ws⟩ ws zs Q L2.E0 (hr.mono hk) I2.env0 (h3 s2 ws hl) rz q') ?_)
  intro rr s' hq
  match rr, hq with
  | .error _, hq => exact False.elim hq
  | .ok (.ret _), hq => exact I2.after hq
  | .ok .next, hq => exact False.elim hq
  | .ok .brk, hq => exact False.elim hq
  | .ok .cont, hq => exact False.elim hq
/-- a constant of the module -/
theorem pe_gc {v : V} (hg : Gl X x) (h : ∃ u, X.mg x = some u ∧ RelV v u) (hdb : (x == ("__debug__" : Str)) = false := by decide) : PE X (.Name x pos) (tC v) := by
  obtain ⟨u, h1, h2⟩ := h
  exact pe_glob hg h1 h2 hdb
end
section
variable {Γ : Cn} {δ : List Sl} {te ta tb tc : TE} {P : Dt → Prop} {W : Wo}
theorem ed_dnew (p : P (.dct [])) : ED Γ tDNewK δ P := fun G H σ Q at_ k q hq => k _ _ (upd G q (.dK [])) _ (Fr.new at_.gd hq) (at_.gd.new hq) (.dct upd_same) p
theorem nl_addL {P : List Dt → Prop} (h : RD Γ ta δ fun x => RD Γ tb δ fun y => ∃ xs ys, x = .lst xs ∧ y = .lst ys ∧ xs.length + ys.length ≤ 100000 ∧ P (xs ++ ys)) : NL Γ (tOp (rAddA Γ.W.K) ta tb) δ P := fun G H σ Q at_ k =>
  h G H σ _ at_ fun v x G1 H1 f1 g1 d1 p1 => p1 G1 H1 σ _ (at_.step f1 g1) fun w y G2 H2 f2 g2 d2 ⟨xs, ys, e1, e2, hl, p⟩ => by
    subst e1 e2
    have f := f1.trans f2 g2
    obtain ⟨a, us, rfl, h1, r1⟩ := (d1.step f2).lst g2
    obtain ⟨b, ws, rfl, h2, r2⟩ := d2.lst g2
    refine .inr (.inl ⟨a, b, us, ws, rfl, rfl, h1, h2, by rw [r1.length, r2.length]; exact Nat.le_trans hl (by decide), fun q hq => ?_⟩)
    exact k q _ _ G2 _ (f.trans (Fr.newM g2 hq) (g2.setM (g2.gn hq) (g2.nm hq))) (g2.setM (g2.gn hq) (g2.nm hq)) (fr_back f g2 hq) upd_same (g2.gn hq) (r1.append r2) p
/-- {k: n}, k a text -/
theorem ed_disp1 {n : Int} (h : ED Γ ta δ fun d => ∃ x, d = .str x ∧ P (.dct [(.inr x, .int n)])) : ED Γ (tDisp [(ta, tC (.int n))]) δ P := fun G H σ Q at_ k q hq => by
  have gd := at_.gd
  have f0 : Fr Γ.W G H G (upd H q (.dK [])) := Fr.newM gd hq
  have g0 : Good Γ.W G (upd H q (.dK [])) := gd.setM (gd.gn hq) (gd.nm hq)
  refine h G _ σ _ (at_.step f0 g0) fun v d G1 H1 f1 g1 r ⟨x, e, p⟩ => ?_
  subst e
  cases r
  have w := f1.o q _ upd_same (gd.gn hq)
  refine ⟨w.2 (gd.nm hq), [(.inr x, .int n)], rfl, (by show 1 ≤ 15; decide), ?_⟩
  have f01 := f0.trans f1 g1
  have m : mergeK [] [((.inr x : Key), V.int n)] = [(.inr x, V.int n)] := rfl
  rw [m]
  refine k _ _ (upd G1 q (.dK [(.inr x, .int n)])) _ ⟨f01.g.trans (same_new w.1), fun b u e gb => ?_⟩ ⟨same_upd2 g1.sub w.1, fun b e => ?_⟩ (.dct upd_same) p
  · have hb : b ≠ q := ne_of_none e hq
    rw [upd_ne hb, upd_ne hb]
    exact f01.o b u e gb
  · obtain ⟨k1, u, k2, k3⟩ := g1.st b e
    have hb : b ≠ q := fun z => gd.nm hq (z ▸ e)
    rw [upd_ne hb, upd_ne hb]
    exact ⟨k1, u, k2, k3⟩
theorem sd_par3 {i j l : Nat} {D : De} (h : ED Γ ta δ fun s => ED Γ tb δ fun t => ED Γ tc δ fun u => D.nx (((δ.set i (.dat s)).set j (.dat t)).set l (.dat u))) : SD Γ (tPar3 i j l (tCons ta (tCons tb (tCons tc tNil)))) δ D := fun G H σ E at_ hn hr hb hc =>
  h G H σ _ at_ fun v s G1 H1 f1 g1 r1 p1 => p1 G1 H1 σ _ (at_.step f1 g1) fun w t G2 H2 f2 g2 r2 p2 => p2 G2 H2 σ _ ((at_.step f1 g1).step f2 g2) fun x u G3 H3 f3 g3 r3 p3 =>
    ⟨v, w, x, rfl, hn _ G3 H3 _ ((f1.g.trans f2.g).trans f3.g) ⟨(((at_.step f1 g1).step f2 g2).step f3 g3).fr, g3, (((((at_.step f1 g1).step f2 g2).step f3 g3).env.set ((r1.mono f2.g).mono f3.g)).set (r2.mono f3.g)).set r3⟩ p3⟩
theorem sd_parD {i j : Nat} {D : De} (h : ED Γ ta δ fun s => ED Γ tb δ fun t => D.nx ((δ.set i (.dat s)).set j (.dat t))) : SD Γ (tPar i j (tCons ta (tCons tb tNil))) δ D := fun G H σ E at_ hn hr hb hc =>
  h G H σ _ at_ fun v s G1 H1 f1 g1 r1 p1 => p1 G1 H1 σ _ (at_.step f1 g1) fun w t G2 H2 f2 g2 r2 p2 =>
    ⟨v, w, rfl, hn _ G2 H2 _ (f1.g.trans f2.g) ⟨((at_.step f1 g1).step f2 g2).fr, g2, (((at_.step f1 g1).step f2 g2).env.set (r1.mono f2.g)).set r2⟩ p2⟩
/-- targets of several names -/
theorem sd_asgG {g : TG} {js : List Nat} {D : De} (h : ED Γ te δ fun d => GD Γ g js δ d D.nx) : SD Γ (tAsg te g) δ D := fun G H σ E at_ hn hr hb hc =>
  h G H σ _ at_ fun v d G1 H1 f1 g1 r p => p G1 H1 σ v _ (at_.step f1 g1) r fun δ' σ' a _ q => hn δ' G1 H1 σ' f1.g a q
/-- xs[::-1] -/
theorem ed_rev (h : RD Γ te δ fun x => ∃ ds, x = .lst ds ∧ P (.lst ds.reverse)) : ED Γ (tRevL Γ.W.K te) δ P := fun G H σ Q at_ k =>
  h G H σ _ at_ fun v x G1 H1 f1 g1 d1 ⟨ds, e, p⟩ => by
    subst e
    obtain ⟨a, us, rfl, h1, r1⟩ := d1.lst g1
    refine ⟨a, us, rfl, SqL.of h1, fun q hq => ?_⟩
    exact k _ _ (upd G1 q (.lst us.reverse)) _ (f1.trans (Fr.new g1 hq) (g1.new hq)) (g1.new hq) (.lst upd_same (r1.reverse.mono (same_new (g1.gn hq)))) p
end
/-! ### the written part by its own letter -/
section
variable {X : Cx} {K : PySem.W.Frag}
theorem _root_.L2.OpR.wk {f : Value → Value → Sem Value} {r : PySem.W.Frag → R2} (h : OpR X f (r X.K)) (e : X.K = K) : OpR X f (r K) := e ▸ h
theorem _root_.L2.CallR.wk {f : Value} {r : PySem.W.Frag → List V → Hp → VK → Prop} (h : CallR X f (r X.K)) (e : X.K = K) : CallR X f (r K) := e ▸ h
theorem _root_.L2.IxR.wk {r : PySem.W.Frag → R2} (h : L2.IxR X (r X.K)) (e : X.K = K) : L2.IxR X (r K) := e ▸ h
theorem slAnyK (e : X.K = K) : L2.SlR X (rSlAny K) := e ▸ slAny
theorem pi_listK {tg l : Expr} {tl : TE} (hl : PE X l tl) (e : X.K = K) : PI X tg l (iList K tl) := e ▸ pi_list hl
theorem pi_tupK {tg l : Expr} {tl : TE} (hl : PE X l tl) (e : X.K = K) : PI X tg l (iTup K tl) := e ▸ pi_tup hl
theorem pg_tupK {es : List Expr} {k : Nat} {t : TGs} {n : Nat} {pos : Pos} (hc : X.calm = true) (h : PGs X es t) (e : X.K = K)
    (hn : (assignEach es X.env).length = n := by rfl) (hst : (assignEach es X.env).findIdx? (·.1) = none := by rfl) : PG X (.Tuple es k pos) (gTup K n t) := e ▸ pg_tup hc h hn hst
end
end Pd

set_option Elab.async false
set_option linter.all false
set_option maxRecDepth 100000
set_option maxHeartbeats 2000000
namespace Pd
open PySem PySem.Spec PyProof.Rows L2
/-! ### the stock that draws change: some ints, each with its bounds -/
def SJ (C : Nat → Int → Prop) (n : Nat) : HO → Prop := fun o => ∃ ns : List Int, ns.length = n ∧ o = .lst (ns.map V.int) ∧ ∀ (i : Nat) (x : Int), ns[i]? = some x → C i x
section
variable {Γ : Cn} {δ : List Sl} {te : TE} {P : Dt → Prop} {C : Nat → Int → Prop} {n i j : Nat} {a : Addr} {z : Int} {D : De}
theorem ed_stk (hd : δ[i]? = some (.dat (.raw (.ref a)))) (hM : Γ.W.M = some a) (hJ : Γ.W.J = SJ C n) (hz : z = (j : Int)) (hj : j < n) (p : ∀ x, C j x → P (.int x)) : ED Γ (tOp (rIx Γ.W.K) (tVar i) (tC (.int z))) δ P := fun G H σ Q at_ k => by
  obtain ⟨v, h1, h2⟩ := at_.env.dat i _ hd
  cases h2
  obtain ⟨hg, o, ho, hJo⟩ := at_.gd.st a hM
  rw [hJ] at hJo
  obtain ⟨ns, hl, rfl, hC⟩ := hJo
  obtain ⟨x, hx⟩ : ∃ x, ns[j]? = some x := ⟨ns[j]'(by omega), List.getElem?_eq_getElem (by omega)⟩
  refine ⟨.ref a, h1, .inl ⟨a, _, z, .int x, rfl, rfl, SqL.of ho, ?_, k _ _ G H (Fr.refl _ _ _) at_.gd (.int x) (p x (hC j x hx))⟩⟩
  rw [hz]
  exact atI_nat (by rw [List.getElem?_map, hx]; rfl)
theorem sd_stk (hd : δ[i]? = some (.dat (.raw (.ref a)))) (hM : Γ.W.M = some a) (hJ : Γ.W.J = SJ C n) (hz : z = (j : Int)) (hj : j < n) (h : ED Γ te δ fun d => ∃ x, d = .int x ∧ C j x ∧ D.nx δ) : SD Γ (tAsg te (gSub (tVar i) (tC (.int z)) rSetL)) δ D := fun G H σ E at_ hn hr hb hc =>
  h G H σ _ at_ fun v d G1 H1 f1 g1 r ⟨x, e, cx, p⟩ => by
    subst e
    cases r
    have at1 := at_.step f1 g1
    obtain ⟨w, h1, h2⟩ := at1.env.dat i _ hd
    cases h2
    obtain ⟨hg, o, ho, hJo⟩ := at1.gd.st a hM
    have hJo' := hJo
    rw [hJ] at hJo'
    obtain ⟨ns, hl, rfl, hC⟩ := hJo'
    refine ⟨.ref a, h1, a, ns.map V.int, z, j, rfl, rfl, ho, ?_, ?_⟩
    · rw [hz, List.length_map, hl]
      exact Evl.ixN_nat hj
    · have es : (ns.map V.int).set j (.int x) = (ns.set j x).map V.int := by rw [List.map_set]
      rw [es]
      refine hn δ G1 _ σ f1.g ⟨⟨at1.fr.g, fun b u e gb => ?_⟩, ⟨fun b u e => ?_, fun b e => ?_⟩, ?_⟩ p
      · obtain ⟨k1, k2⟩ := at1.fr.o b u e gb
        refine ⟨k1, fun hm => ?_⟩
        have hb : b ≠ a := fun q => hm (q ▸ hM)
        rw [upd_ne hb]
        exact k2 hm
      · have hb : b ≠ a := ne_of_none e hg
        rw [upd_ne hb]
        exact at1.gd.sub b u e
      · rw [hM] at e
        cases e
        refine ⟨hg, _, upd_same, ?_⟩
        rw [hJ]
        refine ⟨ns.set j x, by rw [List.length_set]; exact hl, rfl, fun i' y hy => ?_⟩
        rw [set_get] at hy
        by_cases q : j = i'
        · rw [if_pos q] at hy
          split at hy
          · cases hy
            exact q ▸ cx
          · cases hy
        · rw [if_neg q] at hy
          exact hC i' y hy
      · exact {
          len := at1.env.len
          dat := at1.env.dat
          mu := fun j' ds hj' => by
            obtain ⟨b, ys, k1, k2, k3, k4, k5, k6⟩ := at1.env.mu j' ds hj'
            have hb : b ≠ a := fun q => k5 (q ▸ hM)
            exact ⟨b, ys, k1, by rw [upd_ne hb]; exact k2, k3, k4, k5, k6⟩
          slf := fun j' Cc fds hj' => by
            obtain ⟨b, dx, ys, k1, k2, k3, k4, k5, k6, k7, k8, k9, k10⟩ := at1.env.slf j' Cc fds hj'
            have hb : b ≠ a := fun q => k8 (q ▸ hM)
            have hb2 : dx ≠ a := fun q => k9 (q ▸ hM)
            exact ⟨b, dx, ys, k1, by rw [upd_ne hb]; exact k2, by rw [upd_ne hb2]; exact k3, k4, k5, k6, k7, k8, k9, k10⟩
          sep := at1.env.sep }
end

/-! ### comprehensions without a test -/
section
variable {Γ : Cn} {δ : List Sl} {te : TE} {wi : TI} {g : TG} {vs js : List Nat}
/-- every element is as R says -/
theorem nl_lcP {P : List Dt → Prop} (hj : ∀ j ∈ js, j ∈ vs) (h : WD Γ wi δ fun ds => ds.length ≤ 100000 ∧ ∃ R : Dt → Prop, (∀ (i : Nat) x, ds[i]? = some x → GD Γ g js (wipeD δ vs) x fun δ2 => ED Γ te δ2 R) ∧ (∀ es : List Dt, es.length = ds.length → (∀ y ∈ es, R y) → P es)) :
    NL Γ (tLc wi g tYes te vs) δ P := nl_lc hj fun G H σ Q at_ k => h G H σ Q at_ fun J ds G' H' f gd w ⟨hl, R, h1, h2⟩ => k J ds G' H' f gd w ⟨hl, fun i acc => acc.length = i ∧ ∀ y ∈ acc, R y, ⟨rfl, fun y hy => absurd hy List.not_mem_nil⟩, fun i x acc hx ⟨ha, hR⟩ => by
      intro G2 H2 σ2 v Q2 at2 r2 k2
      refine h1 i x hx G2 H2 σ2 v Q2 at2 r2 fun δ' σ' a' hw q => k2 δ' σ' a' hw ?_
      refine td_yes ⟨fun _ => ?_, fun z => by cases z⟩
      intro G3 H3 σ3 Q3 at3 k3
      exact q G3 H3 σ3 Q3 at3 fun v d G4 H4 f4 g4 r4 p4 => k3 v d G4 H4 f4 g4 r4 ⟨by rw [List.length_append, ha]; rfl, fun y hy => by
        rcases List.mem_append.mp hy with hy | hy
        · exact hR y hy
        · rw [List.mem_singleton.mp hy]; exact p4⟩, fun acc ⟨ha, hR⟩ => h2 acc ha hR⟩
/-- the elements are a function of what is walked -/
theorem nl_lcMap {α : Type} {P : List Dt → Prop} (hj : ∀ j ∈ js, j ∈ vs) (h : WD Γ wi δ fun ds => ds.length ≤ 100000 ∧ ∃ (cs : List α) (g0 h0 : α → Dt), ds = cs.map g0 ∧ (∀ c ∈ cs, GD Γ g js (wipeD δ vs) (g0 c) fun δ2 => ED Γ te δ2 fun y => y = h0 c) ∧ P (cs.map h0)) :
    NL Γ (tLc wi g tYes te vs) δ P := nl_lc hj fun G H σ Q at_ k => h G H σ Q at_ fun J ds G' H' f gd w ⟨hl, cs, g0, h0, e, h1, h2⟩ => k J ds G' H' f gd w ⟨hl, fun i acc => acc = (cs.take i).map h0, rfl, fun i x acc hx ha => by
      subst e
      rw [List.getElem?_map] at hx
      cases hc : cs[i]? with
      | none => rw [hc] at hx; cases hx
      | some c =>
        rw [hc] at hx
        cases hx
        intro G2 H2 σ2 v Q2 at2 r2 k2
        refine h1 c (List.mem_of_getElem? hc) G2 H2 σ2 v Q2 at2 r2 fun δ' σ' a' hw q => k2 δ' σ' a' hw ?_
        refine td_yes ⟨fun _ => ?_, fun z => by cases z⟩
        intro G3 H3 σ3 Q3 at3 k3
        refine q G3 H3 σ3 Q3 at3 fun v d G4 H4 f4 g4 r4 p4 => k3 v d G4 H4 f4 g4 r4 ?_
        show acc ++ [d] = (cs.take (i + 1)).map h0
        rw [List.take_add_one, hc, List.map_append, ha, show d = h0 c from p4]
        rfl, fun acc ha => by
      subst e
      have ha' : acc = (cs.take (cs.map g0).length).map h0 := ha
      rw [List.length_map, List.take_length] at ha'
      rw [ha']
      exact h2⟩
end
/-- a def whose last statement gives back a new list -/
theorem body_ofN {K : PySem.W.Frag} {n : Nat} {Pre : Wo → List Dt → Prop} {R : List Dt → List Dt → Prop} {N : List Str} {t1 : TS} {te : TE} {vs : List V} {H : Hp} {Q : VK} {E : XK}
    (h : ∀ (Γ : Cn) ds, Γ.W.K = K → ds.length = n → Pre Γ.W ds → SD Γ t1 (slots N.length ds) { nx := fun δ' => NL Γ te δ' (R ds), rt := fun _ => False }) (hs : spN K n Pre R vs H Q E) : tSeq t1 (tRet te) { nx := fun _ H' => Q .non H', rt := Q } (L2.start N vs) H := by
  obtain ⟨hl, W, ds, G, rfl, g, r, p, k⟩ := hs
  refine h (cn0 W G H) ds rfl (r.length.symm.trans hl) p G H (L2.start N vs) _ (at_start g r) ?_ ?_ ?_ ?_
  · intro δ' G' H' σ' e a q
    refine q G' H' σ' _ a fun b xs es G2 H2 f2 g2 hb h1 h2 r2 p2 => ?_
    exact k b xs es G2 H2 (a.fr.trans f2 g2) g2 (a.h0 hb) h1 h2 r2 p2
  · intro v d G' H' f g' rr q
    exact q.elim
  · intro δ' G' H' σ' e a q
    exact q.elim
  · intro δ' G' H' σ' e a q
    exact q.elim
section
variable {W : Wo} {P : Dt → Prop} {i : Int} {j : Nat}
theorem od_ixLi {xs : List Dt} {d : Dt} (hi : i = (j : Int)) (h : xs[j]? = some d) (p : P d) : OD W (rIx W.K) (.lst xs) (.int i) P := by subst hi; exact od_ixL h p
theorem od_ixTi {xs : List Dt} {d : Dt} (hi : i = (j : Int)) (h : xs[j]? = some d) (p : P d) : OD W (rIx W.K) (.tup xs) (.int i) P := by subst hi; exact od_ixT h p
theorem od_ixSi {z : Str} {c : Nat} (hi : i = (j : Int)) (hz : z.length ≤ 100000) (h : z.cps.toList[j]? = some c) (p : P (.str ⟨#[c]⟩)) : OD W (rIx W.K) (.str z) (.int i) P := by subst hi; exact od_ixS hz h p
end
theorem ED.imp {Γ : Cn} {δ : List Sl} {te : TE} {P P' : Dt → Prop} (h : ED Γ te δ P) (k : ∀ d, P d → P' d) : ED Γ te δ P' := fun G H σ Q at_ q => h G H σ Q at_ fun v d G' H' f g r p => q v d G' H' f g r (k d p)
theorem join_len {sep : Str} {ys : List Str} : (Txt.join sep ys).length ≤ (ys.map (·.length)).sum + ys.length * sep.length := by
  rw [TL.join_eq]
  exact StrLaws.join_length_le sep ys
/-- texts of one sign each -/
theorem signs_all {es : List Dt} (h : ∀ y ∈ es, ∃ c : Nat, y = .str ⟨#[c]⟩) : ∃ ys : List Str, es = ys.map Dt.str ∧ ∀ y ∈ ys, y.length = 1 := by
  induction es with
  | nil => exact ⟨[], rfl, fun y hy => absurd hy List.not_mem_nil⟩
  | cons d es ih =>
    obtain ⟨c, hc⟩ := h d List.mem_cons_self
    obtain ⟨ys, e, hy⟩ := ih fun y hy => h y (List.mem_cons_of_mem _ hy)
    refine ⟨⟨#[c]⟩ :: ys, by rw [hc, e]; rfl, fun y hy' => ?_⟩
    rcases List.mem_cons.mp hy' with rfl | hy'
    · rfl
    · exact hy y hy'
theorem sum_ones : ∀ {ys : List Str}, (∀ y ∈ ys, y.length = 1) → (ys.map (·.length)).sum = ys.length
  | [], _ => rfl
  | y :: ys, h => by
    rw [List.map_cons, List.sum_cons, sum_ones fun z hz => h z (List.mem_cons_of_mem _ hz), h y List.mem_cons_self, List.length_cons]
    omega
/-- as sd_enter, the new context a letter -/
theorem sd_world {Γ : Cn} {δ : List Sl} {i : Nat} {ds : List Dt} {ts : TS} {D : De} (J : HO → Prop) (hm : Γ.W.M = none) (hi : δ[i]? = some (.mu ds)) (hj : ∀ G xs, DrAll Γ.W.K G xs ds → J (.lst xs))
    (h : ∀ (Γ' : Cn) (a : Addr), Γ'.W.K = Γ.W.K → Γ'.W.M = some a → Γ'.W.J = J → SD Γ' ts (δ.set i (.dat (.raw (.ref a)))) D) : SD Γ ts δ D :=
  sd_enter J hm hi hj fun a h0 => h (Γ.enter a J hm h0) a rfl rfl rfl
theorem ed_neg {Γ : Cn} {δ : List Sl} {ta : TE} {P : Dt → Prop} (h : ED Γ ta δ fun d => ∃ i, d = .int i ∧ P (.int (-i))) : ED Γ (tUn (rU fun i => .int (-i)) ta) δ P := fun G H σ Q at_ k =>
  h G H σ _ at_ fun v d G1 H1 f1 g1 r ⟨i, e, p⟩ => by
    subst e
    cases r
    exact ⟨i, rfl, k _ _ G1 H1 f1 g1 (.int _) p⟩
theorem od_repI {W : Wo} {P : Dt → Prop} {xs : List Dt} {i : Int} {n : Nat} (hi : i = (n : Int)) (hl : xs.length * n ≤ 100000) (hn : n ≤ 100000) (p : P (.lst (List.replicate n xs).flatten)) : OD W rMulA (.lst xs) (.int i) P := by
  subst hi
  exact od_rep hl hn p
theorem shaped_int (i : Int) : SeqAt.shaped (.int i) = true := by simp [SeqAt.shaped, PyData.canLay0, PyData.depth]
end Pd

set_option Elab.async false
set_option linter.all false
set_option maxRecDepth 100000
set_option maxHeartbeats 2000000
/-! ### enumerate(tuple) -/
namespace PySem
open Sem (wp)
set_option maxHeartbeats 1000000 in
theorem meets_enumerate_newB1 {v : Value} {o : Obj} {H : Heap → Prop} (B : Begins v o H) :
    Meets (Builtin.«enumerate.__new__» ⟨[.type "enumerate", v], []⟩) (fun _ R s => H s.heap ∧
      R (.ok (.ret (.ref (s.heap.push o).objs.size))) { s with heap := (s.heap.push o).push { cls := .type "enumerate", data := .fields #[.none, .bool false, .ref s.heap.objs.size, rawInt 0, .none, .none] } }) :=
  .of_wp fun prog w A R s h => by
    obtain ⟨hp, g, d, tk, os⟩ := s; obtain ⟨h1, h⟩ := h
    have hsub := sub_enumerate
    have q1 : ∀ {A' : Around} {E : Value → Shared → Prop} {Q : Value → Shared → Prop}, Q (.ref hp.objs.size) ⟨hp.push o, g, d, tk, os⟩ → wpAny (model prog w) A' (pyIter v) Q E ⟨hp, g, d, tk, os⟩ :=
      fun q => B.iter prog w _ _ ⟨hp, g, d, tk, os⟩ _ h1 q
    wp_walk using q1
    refine wpAny_stack_any fun st => wpAny_pure ?_
    split
    · rename_i c _ _ _ _ _
      cases (c == Value.type "enumerate")
      · wp_walk using q1
        exact ⟨_, rfl, h⟩
      · wp_walk using q1
        exact ⟨_, rfl, h⟩
    · wp_walk using q1
      exact ⟨_, rfl, h⟩
theorem enum_begins1 {prog : Program} {w : World} {A : Around} {E : Value → Shared → Prop} {s : Shared} {v : Value} {o : Obj} {H : Heap → Prop} {Q : Value → Shared → Prop} (B : Begins v o H) (h1 : H s.heap)
    (h : ∀ h', IsEnum h' (s.heap.objs.size + 1) s.heap.objs.size 0 .none → h'.get? s.heap.objs.size = some o → h'.objs.size = s.heap.objs.size + 2 →
      (∀ b o, s.heap.get? b = some o → h'.get? b = some o) → Q (.ref (s.heap.objs.size + 1)) { s with heap := h' }) :
    wpAny (model prog w) A (call (.type "enumerate") [v]) Q E s := by
  refine callType_new F.called_enumerate (by decide) (F.typeCall_enumerate_1 _) (F.newCall_enumerate_1 _) (fun obj => F.args_object_init_2 obj _) F.entry_enumerate_new
    (meets_enumerate_newB1 B) ⟨h1, ?_⟩
  have hz : (s.heap.push o).objs.size = s.heap.objs.size + 1 := Heap.size_push ..
  show _ ∧ _
  rw [hz]
  have he : IsEnum ((s.heap.push o).push { cls := .type "enumerate", data := .fields #[.none, .bool false, .ref s.heap.objs.size, rawInt 0, .none, .none] }) (s.heap.objs.size + 1) s.heap.objs.size 0 .none := by
    have := Heap.get?_push_size (s.heap.push o) (o := { cls := .type "enumerate", data := .fields #[.none, .bool false, .ref s.heap.objs.size, rawInt 0, .none, .none] }) rfl
    rw [hz] at this; exact this
  refine ⟨⟨_, he, rfl⟩, h _ he (Heap.get?_push_of_some _ (Heap.get?_push_size _ B.free)) (by rw [Heap.size_push, hz]) fun b o x => Heap.get?_push_of_some _ (Heap.get?_push_of_some _ x)⟩
end PySem
namespace Pd
open PySem PySem.Spec PyProof.Rows L2
def IteT (K : PySem.W.Frag) (a : Addr) : It :=
  ⟨fun i H => ∃ (xs : List V) (x : V), SqT K H a xs ∧ xs[i]? = some x, fun i H v H' => ∃ T x, v = .ref T ∧ H T = none ∧ H' = upd H T (.tup [.int (i : Nat), x]) ∧ ∀ xs, SqT K H a xs → xs[i]? = some x, fun i H => ∃ xs : List V, SqT K H a xs ∧ xs.length = i⟩
theorem turn_enumT {P : Program} {w : World} {K : PySem.W.Frag} {elts : List Expr} {kk : Nat} {tpos : Pos} (a e it : Addr) :
    Turn P w K (.Tuple elts kk tpos) (IteT K a) [e, it] e (fun i h => (∃ old, IsEnum h e it ((i : Nat) : Int) old) ∧ h.IsTupleIter it a i ∧ e ≠ it ∧ a ≠ it ∧ e ≠ a) where
  mem := by simp
  obj := fun i h st b hb => by
    obtain ⟨⟨old, he⟩, ⟨o, ho, hc, hd⟩, _⟩ := st
    have e' : b = e ∨ b = it := by simpa using hb
    rcases e' with z | z
    · rw [z]; exact ⟨_, he, fun v q => nomatch q⟩
    · rw [z]; exact ⟨o, ho, fun v q => by rw [hd] at q; cases q⟩
  keep := fun i h h' st k => let ⟨⟨old, he⟩, hi, hne⟩ := st; ⟨⟨old, k e (by simp) _ he⟩, hi.at fun o q => k it (by simp) o q, hne⟩
  item := by
    intro X hP hw hK hc i pins s σ H E I hf st hg
    subst hP hw hK
    obtain ⟨⟨old, he⟩, hit, hne, hai, hea⟩ := st
    obtain ⟨xs, x, hq, hx⟩ := hg
    obtain ⟨its, rv, p, hz⟩ := I.tuple hq
    obtain ⟨u, hu, ru⟩ := rv.get hx
    have hel : e < s.heap.objs.size := Heap.lt_size he
    have hil : it < s.heap.objs.size := by obtain ⟨_, q, _⟩ := hit; exact Heap.lt_size q
    have hlt : i < its.toArray.size := by
      have := (List.getElem?_eq_some_iff.mp hu).1
      simpa using this
    refine wpAny_pyNext_enum_itemD (Draws.tuple (A := X.A.in1) (I.ok.hd hc) it a hai its.toArray) he ⟨hit, p⟩ hlt hne (by simp [hne, hea]) fun y h' tk hy ho hit' hT hsz hk => ?_
    have hyu : y = u := by
      rw [← Array.getElem?_toList] at hy
      rw [show its.toArray.toList = its from rfl, hu] at hy
      exact (Option.some.inj hy).symm
    subst hyu
    refine ⟨_, rfl, wpAny_letOwnedTupleGo_enum (s := { s with heap := h', toks := tk + 1 }) ho fun h'' he' sb => ?_⟩
    have hT2 : h''.get? s.heap.objs.size = some { cls := .type "tuple", data := .seq #[.int i tk, y] } := (sb.2 _ (Nat.ne_of_gt hel)).trans hT
    have new : ObjOk X.prog X.w (upd H s.heap.objs.size (.tup [.int (i : Nat), x])) h'' s.heap.objs.size (.tup [.int (i : Nat), x]) :=
      ⟨by show 2 ≤ sizeLine; decide, [.int i tk, y], .cons ⟨_, rfl⟩ (.cons ru .nil), ⟨_, hT2, rfl, _, rfl⟩⟩
    have I1 : Inv X pins σ (upd H s.heap.objs.size (.tup [.int (i : Nat), x])) { s with heap := h'', toks := tk + 1 } :=
      I.turnedNew (ch := [e, it]) (fun b ob hb q => (sb.2 b (fun z => hb (by simp [z]))).trans (hk b ob (fun z => hb (by simp [z])) (fun z => hb (by simp [z])) q)) hf (Nat.le_refl _) new
    refine ⟨.ref s.heap.objs.size, _, I1, rfl, ⟨_, x, rfl, I.hok.fresh (Nat.le_refl _), rfl, fun ys hy => by rw [I.tuple_inj hy hq]; exact hx⟩, ⟨⟨y, ?_⟩, hit'.1.at fun o q => (sb.2 it (Ne.symm hne)).trans q, hne, hai, hea⟩, fun b hb => ?_⟩
    · have e1 : ((i + 1 : Nat) : Int) = (i : Int) + 1 := by omega
      rw [e1]; exact he'
    · have hb' : b < s.heap.objs.size := by
        have e' : b = e ∨ b = it := by simpa using hb
        rcases e' with z | z
        · rw [z]; exact hel
        · rw [z]; exact hil
      rw [upd_ne (Nat.ne_of_lt hb')]
      exact (hf b hb).1
  done := by
    intro X hP hw hK hc i pins s σ H E I hf st hg
    subst hP hw hK
    obtain ⟨⟨old, he⟩, hit, hne, hai, hea⟩ := st
    obtain ⟨xs, hq, hx⟩ := hg
    obtain ⟨its, rv, p, hz⟩ := I.tuple hq
    obtain ⟨f0, f1, f2, f3, f4, f5⟩ := hf it (by simp)
    have hl := rv.length
    have hi : i = its.toArray.size := by simp; omega
    refine wpAny_pyNext_enum_endD (Draws.tuple (A := X.A.in1) (I.ok.hd hc) it a hai its.toArray) he ?_ fun h' eb => ⟨rfl, I.turned (t' := s.toks) (fun b o hb q => eb b o hb q) f0 f1 f3 f4 f5⟩
    rw [← hi]
    exact ⟨hit, p⟩
  self := fun A i s Q E st h => let ⟨⟨_, he⟩, _⟩ := st; wpAny_pyIter_enum he h
def iEnumT (K : PySem.W.Frag) (ta : TA) : TI := fun σ H R => ta σ H fun vs H1 => ∃ a xs, vs = [.ref a] ∧ SqT K H1 a xs ∧ R (IteT K a) H1
theorem pi_enumT {X : Cx} {K : PySem.W.Frag} {e : Expr} {ta : TA} {p pos tpos : Pos} {elts : List Expr} {kk : Nat} (hK : X.K = K) (hg : Gl X "enumerate") (hm : X.mg "enumerate" = none) (ha : PA X [e] ta) (hs : starEach [e] X.env = [(false, eval e X.env)] := by rfl) :
    PI X (.Tuple elts kk tpos) (.Call (.Name "enumerate" p) [e] [] pos) (iEnumT K ta) := by
  subst hK
  refine ⟨fun pins s σ H R I h => ?_⟩
  refine Call_ (ld_blt I hg hm boot_enumerate (PyProof.Rows.callWith_type1 (thn (ha.run pos pins s σ H _ I h) fun us s1 ⟨vs, H1, I1, r1, q1⟩ => ?_) hs rfl))
  obtain ⟨a, xs, ex, hq, q⟩ := q1
  subst ex
  cases r1 with
  | cons r rr =>
    cases rr
    cases r
    obtain ⟨its, rv, p', hz⟩ := I1.tuple hq
    have hal : a < s1.heap.objs.size := by obtain ⟨o, ho, _⟩ := p'; exact Heap.lt_size ho
    refine enum_begins1 (begins_tuple a its.toArray) p' fun h' he hit hsz hk => wpAny_pyIter_enum he ?_
    have I2 : Inv X pins σ H1 { s1 with heap := h' } := I1.kept (t' := s1.toks) hk
    refine ⟨s1.heap.objs.size + 1, [s1.heap.objs.size + 1, s1.heap.objs.size], _, _, H1, rfl, I2, turn_enumT a (s1.heap.objs.size + 1) s1.heap.objs.size, ⟨⟨.none, he⟩, ⟨_, hit, rfl, rfl⟩, Nat.succ_ne_self _, Nat.ne_of_lt hal, Nat.ne_of_gt (Nat.lt_succ_of_lt hal)⟩, fun b hb => ?_, q⟩
    have e' : b = s1.heap.objs.size + 1 ∨ b = s1.heap.objs.size := by simpa using hb
    have hle : s1.heap.objs.size ≤ b := by
      rcases e' with z | z
      · rw [z]; exact Nat.le_add_right _ _
      · rw [z]; exact Nat.le_refl _
    exact I1.fpOk hle (I1.hok.fresh hle)
/-- what enumerate gives -/
def enumD (ds : List Dt) : List Dt := ds.zipIdx.map fun p => .tup [.int (p.2 : Nat), p.1]
theorem enumD_len (ds : List Dt) : (enumD ds).length = ds.length := by simp [enumD]
theorem enumD_at {ds : List Dt} {i : Nat} {d : Dt} (h : ds[i]? = some d) : (enumD ds)[i]? = some (.tup [.int (i : Nat), d]) := by
  simp [enumD, h]
theorem enumD_get {ds : List Dt} {i : Nat} {x : Dt} (h : (enumD ds)[i]? = some x) : ∃ d, ds[i]? = some d ∧ x = .tup [.int (i : Nat), d] := by
  have hl : i < (enumD ds).length := (List.getElem?_eq_some_iff.mp h).1
  rw [enumD_len] at hl
  refine ⟨ds[i], List.getElem?_eq_getElem hl, ?_⟩
  rw [enumD_at (List.getElem?_eq_getElem hl)] at h
  exact (Option.some.inj h).symm
theorem wd_enumT {Γ : Cn} {δ : List Sl} {t : TA} {P : List Dt → Prop} (h : RA Γ t δ fun ds => ∃ es, ds = [.tup es] ∧ P (enumD es)) : WD Γ (iEnumT Γ.W.K t) δ P := fun G H σ R at_ k =>
  h G H σ _ at_ fun vs ds G1 H1 f1 g1 d1 ⟨es, e, p⟩ => by
    subst e
    cases d1 with
    | cons r1 r2 =>
      cases r2
      obtain ⟨a, xs, rfl, hs, hd⟩ := r1.tup
      refine ⟨a, xs, rfl, sqT_mono g1.sub hs, k _ _ G1 H1 f1 g1 ?_ p⟩
      unfold Wk
      rw [enumD_len, ← hd.length]
      refine ⟨fun i H2 hi q => ⟨xs, xs[i], sqT_mono q hs, List.getElem?_eq_getElem hi⟩, fun H2 q => ⟨xs, sqT_mono q hs, rfl⟩, fun i H2 v H3 hi q y => ?_⟩
      obtain ⟨T, x, rfl, hT, rfl, hx⟩ := y
      have hx' := hx xs (sqT_mono q hs)
      obtain ⟨d, hde, rd⟩ := hd.get hx'
      intro G2 e2 g2
      refine ⟨upd G2 T (.tup [.int (i : Nat), x]), .tup [.int (i : Nat), d], enumD_at hde, Fr.new g2 hT, g2.new hT, .tup (.inl (.inl upd_same)) (.cons (.int _) (.cons ?_ .nil))⟩
      exact (rd.mono e2).mono (same_new (g2.gn hT))
end Pd

set_option Elab.async false
set_option linter.all false
set_option maxRecDepth 100000
set_option maxHeartbeats 2000000
namespace HT
open PySem PySem.Spec PyProof.Rows
section
variable {prog : Program} {w : World} {A : Around} {E : Value → Shared → Prop} {s : Shared}
theorem sliceApplied_rev {sl : Addr} {vl vu vs : Value} {n : Nat} {Q : Int × Int × Nat → Shared → Prop} (hs : s.heap.IsSliceOf sl vl vu vs) (pl : IsPart vl none) (pu : IsPart vu none) (ps : IsPart vs (some (-1)))
    (h : Q ((n : Int) - 1, -1, n) s) : wpAny (model prog w) A (Builtin.Slice.sliceApplied (.ref sl) (pure (n : Int))) Q E s := by
  obtain ⟨os, hos, hcs, hds⟩ := id hs
  unfold Builtin.Slice.sliceApplied Builtin.Slice.sliceFields
  refine wpAny_bind (wpAny_bind (wpAny_field hos hds (x := vl) rfl (wpAny_bind (wpAny_field hos hds (x := vu) rfl (wpAny_bind (wpAny_field hos hds (x := vs) rfl (wpAny_pure ?_)))))))
  refine wpAny_bind (slicePart_ ps ?_)
  show wpAny _ _ (if ((-1 : Int) == 0) = true then _ else _) _ _ s
  rw [if_neg (by decide)]
  refine wpAny_bind (slicePart_ pl (wpAny_bind (slicePart_ pu (wpAny_bind (wpAny_pure ?_)))))
  show wpAny _ _ (pure ((n : Int) - 1, (-1 : Int), Builtin.Slice.slicePlaces ((n : Int) - 1) (-1) (-1))) _ _ s
  have e : Builtin.Slice.slicePlaces ((n : Int) - 1) (-1) (-1) = n := by
    unfold Builtin.Slice.slicePlaces
    rw [if_neg (by decide)]
    split
    · show (((n : Int) - 1 - -1 - 1) / 1 + 1).toNat = n
      rw [Int.ediv_one]
      omega
    · show (0 : Int).toNat = n
      have : ¬ ((n : Int) - 1 > -1) := by assumption
      have h0 : (0 : Int).toNat = 0 := rfl
      omega
  rw [e]
  exact wpAny_pure h
theorem fm_map {α β : Type} {f : α → Option β} {g : α → β} : ∀ {l : List α}, (∀ m ∈ l, f m = some (g m)) → l.filterMap f = l.map g
  | [], _ => rfl
  | m :: l, h => by rw [List.filterMap_cons, h m List.mem_cons_self, List.map_cons, fm_map fun k hk => h k (List.mem_cons_of_mem _ hk)]
theorem pick_rev (xs : Array Value) : ((List.range xs.size).filterMap fun (m : Nat) => xs[(((xs.size : Int) - 1) + (m : Int) * -1).toNat]?).toArray = xs.toList.reverse.toArray := by
  congr 1
  have e : ∀ m, m ∈ List.range xs.size → xs[(((xs.size : Int) - 1) + (m : Int) * -1).toNat]? = some (xs.toList.reverse.getD m .none) := by
    intro m hm
    have hm' := List.mem_range.mp hm
    have : (((xs.size : Int) - 1) + (m : Int) * -1).toNat = xs.size - 1 - m := by omega
    rw [this]
    rw [← Array.getElem?_toList, List.getD_eq_getElem?_getD, List.getElem?_reverse (by simpa using hm')]
    have hlt : xs.toList.length - 1 - m < xs.toList.length := by simp; omega
    have e2 : xs.size - 1 - m = xs.toList.length - 1 - m := by simp
    rw [e2, List.getElem?_eq_getElem hlt]
    rfl
  rw [fm_map e]
  apply List.ext_getElem?
  intro i
  rw [List.getElem?_map]
  by_cases hi : i < xs.size
  · rw [List.getElem?_range hi]
    have : i < xs.toList.reverse.length := by simpa using hi
    simp only [Option.map_some]
    rw [List.getD_eq_getElem?_getD, List.getElem?_eq_getElem this]
    rfl
  · rw [List.getElem?_eq_none (by simpa using hi), List.getElem?_eq_none (by simpa using hi)]
    rfl
theorem getItem_tuple_rev {t sl : Addr} {items : Array Value} {vl vu vs : Value} {Q : Value → Shared → Prop} (ht : IsTup s.heap t items) (hs : s.heap.IsSliceOf sl vl vu vs) (pl : IsPart vl none) (pu : IsPart vu none) (ps : IsPart vs (some (-1)))
    (h : Q (.ref s.heap.objs.size) { s with heap := s.heap.push { cls := .type "tuple", data := .seq items.toList.reverse.toArray } })
    (hsz : items.size ≤ sizeLine) : wpAny (model prog w) A (getItem (.ref t) (.ref sl)) Q E s := by
  have htake : sizeOk (.seq items.toList.reverse.toArray) := by
    show items.toList.reverse.toArray.size ≤ sizeLine
    rw [List.size_toArray, List.length_reverse, Array.length_toList]
    exact hsz
  obtain ⟨os, hos, hcs, hds⟩ := id hs
  have hTs : s.TypeIs (.ref sl) "slice" := ⟨os, hos, hcs⟩
  unfold getItem
  try with_reducible refine wpAny_holding ?_
  first | refine wpAny_bind (wpAny_pure ?_) | skip
  refine wpAny_bind (wpAny_sequenceKey ht.typeIs (by decide) ?_)
  refine wpAny_bind (wpAny_callSpecial?_slot (name := Str.ofString "__getitem__") ht.typeIs PyProof.Rows.slot_tuple_getitem
    (wpAny_call_entry PyProof.Rows.slot_tuple_getitem ht.typeIs entry_tuple_getitem ?_ (args_tuple_getitem _ _)))
  show wpAny _ _ (Builtin.Tuple.tupleItemsOf (.ref t) >>= _) _ _ s
  refine wpAny_bind (tupleItemsOf_ ht ?_)
  refine wpAny_bind (wpAny_typeOf hTs ?_)
  rw [if_pos (by decide)]
  refine wpAny_bind (sliceApplied_rev hs pl pu ps ?_)
  have hno : ¬ (((((items.size : Int) - 1) : Int) == 0 && (-1 : Int) == 1 && items.size == items.size) = true) := by
    intro q
    rw [Bool.and_eq_true, Bool.and_eq_true] at q
    have q1 : (-1 : Int) = 1 := eq_of_beq q.1.2
    omega
  show wpAny _ _ (if ((((items.size : Int) - 1) : Int) == 0 && (-1 : Int) == 1 && items.size == items.size) = true then _ else _) _ _ s
  rw [if_neg hno, pick_rev]
  first
    | exact wpAny_bind (m := Builtin.Tuple.tupleExact _) (wpAny_newObj_type (wpAny_pure ⟨_, rfl, wpAny_pure h⟩) htake)
    | exact wpAny_bind (m := Builtin.Tuple.tupleExact _) (wpAny_newObj_type (wpAny_bind (wpAny_pure (wpAny_pure ⟨_, rfl, wpAny_pure h⟩))) htake)
    | exact wpAny_bind (wpAny_bind (m := Builtin.Tuple.tupleExact _) (wpAny_newObj_type (wpAny_pure (wpAny_pure ⟨_, rfl, wpAny_pure h⟩)) htake))
    | exact wpAny_bind (wpAny_bind (m := Builtin.Tuple.tupleExact _) (wpAny_newObj_type (wpAny_pure ⟨_, rfl, wpAny_pure h⟩) htake))
end
end HT
namespace Pd
open PySem PySem.Spec PyProof.Rows L2
/-! ### t[::-1] of a tuple -/
def tRevT (K : PySem.W.Frag) (te : TE) : TE := fun σ H Q => te σ H fun x H1 => ∃ a xs, x = .ref a ∧ SqT K H1 a xs ∧ ∀ p, H1 p = none → Q (.ref p) (upd H1 p (.tup xs.reverse))
theorem pe_revT {X : Cx} {K : PySem.W.Frag} {e : Expr} {te : TE} {k : Nat} {p1 p2 p3 pos : Pos} (hK : X.K = K) (he : PE X e te) : PE X (.Subscript e (.Slice none none (some (.UnaryOp .USub (.Constant (.int 1) k p1) p2)) p3) pos) (tRevT K te) := by
  subst hK
  refine ⟨fun pins s σ H Q I h => ?_⟩
  refine Subscript_ (thn (he.run pins s σ H _ I h) fun v s1 ⟨x, H1, I1, r1, q1⟩ => ?_)
  obtain ⟨a, xs, ex, hx, q⟩ := q1
  subst ex
  cases r1
  have hst : PO X (some (.UnaryOp .USub (.Constant (.int 1) k p1) p2)) (tPart (tUn (rU fun i => .int (-i)) (tC (.int 1)))) := po_some (pe_un un_neg pe_int)
  refine wpAny_Slice (thn (po_none.run pins s1 σ H1 (fun o H2 => o = none ∧ H2 = H1) I1 ⟨rfl, rfl⟩) fun vl s2 ⟨l, H2, I2, pl, el, e2⟩ => ?_)
  subst el e2
  refine thn (po_none.run pins s2 σ H2 (fun o H3 => o = none ∧ H3 = H2) I2 ⟨rfl, rfl⟩) fun vu s3 ⟨u, H3, I3, pu, eu, e3⟩ => ?_
  subst eu e3
  refine thn (hst.run pins s3 σ H3 (fun o H4 => o = some (-1) ∧ H4 = H3) I3 ⟨1, rfl, -1, rfl, rfl, rfl⟩) fun vs s4 ⟨o, H4, I4, ps, eo, e4⟩ => ?_
  subst eo e4
  have I5 : Inv X pins σ H4 { s4 with heap := s4.heap.push { cls := .type "slice", data := .fields #[vl, vu, vs] } } := I4.kept (t' := s4.toks) fun b ob q => Heap.get?_push_of_some _ q
  obtain ⟨its, r, ht, hz⟩ := I5.tuple hx
  have hlen := r.length
  show wpAny (model X.prog X.w) X.A (subscriptTail e (.Slice none none (some (.UnaryOp .USub (.Constant (.int 1) k p1) p2)) p3) (.ref a) (.ref s4.heap.objs.size)) (EP X pins σ Q) X.xe { s4 with heap := s4.heap.push { cls := .type "slice", data := .fields #[vl, vu, vs] } }
  refine tail_any (ops := [.ref a, .ref s4.heap.objs.size]) ht.typeIs (PyProof.Rows.slot_tuple_getitem.lookup) ?_ (by with_unfolding_all rfl)
  refine HT.getItem_tuple_rev ht (Heap.IsSliceOf.new _ vl vu vs) pl pu ps ?_ (by rw [List.size_toArray]; omega)
  refine ⟨.ref _, _, I5.laid (t' := s4.toks) (o := .tup xs.reverse) (fun b ob q => Heap.get?_push_of_some _ q) (Nat.le_refl _) ?_, rfl, q _ (I5.hok.fresh (Nat.le_refl _))⟩
  exact ⟨by rw [List.length_reverse]; exact hz, _, r.reverse, IsTup.new _ _⟩
theorem ed_revT {Γ : Cn} {δ : List Sl} {te : TE} {P : Dt → Prop} (h : ED Γ te δ fun x => ∃ ds, x = .tup ds ∧ P (.tup ds.reverse)) : ED Γ (tRevT Γ.W.K te) δ P := fun G H σ Q at_ k =>
  h G H σ _ at_ fun v x G1 H1 f1 g1 d1 ⟨ds, e, p⟩ => by
    subst e
    cases d1 with
    | @tup a us _ h1 r1 =>
      refine ⟨a, us, rfl, sqT_mono g1.sub h1, fun q hq => ?_⟩
      exact k _ _ (upd G1 q (.tup us.reverse)) _ (f1.trans (Fr.new g1 hq) (g1.new hq)) (g1.new hq) (.tup (.inl (.inl upd_same)) (r1.reverse.mono (same_new (g1.gn hq)))) p

/-! ### sorted(list of data) -/
def rSortD (K : PySem.W.Frag) : List V → Hp → VK → Prop := fun vs H Q => ∃ (a : Addr) (xs : List V) (ps : List PyData), vs = [.ref a] ∧ SqL K H a xs ∧ DpAll K H xs ps ∧ PySem.W.AllAlike ps ∧ PySem.W.Sortable ps ∧ (∀ p ∈ ps, p.depth ≤ 60) ∧
  ∀ q, H q = none → Q (.ref q) (upd H q (.lst (((xs.zip ps).mergeSort (PySem.W.dataLe false Prod.snd)).map Prod.fst)))
theorem each_of {X : Cx} {pins : List (Addr × Obj)} {σ : L2.St} {H : Hp} {s : Shared} (I : Inv X pins σ H s) : ∀ {xs : List V} {ps : List PyData} {its : List Value}, DpAll X.K H xs ps → Vals xs its →
    PySem.W.EachIs (fun v (b : V × PyData) => RelV b.1 v) its (xs.zip ps) ∧ PySem.W.EachIs (fun v (b : V × PyData) => ∃ as, Reads s.heap v b.2 as) its (xs.zip ps)
  | _, _, _, .nil, .nil => ⟨.nil, .nil⟩
  | _, _, _, .cons h t, .cons r rr => by
    obtain ⟨a, b⟩ := each_of I t rr
    exact ⟨.cons r a, .cons (Dp.reads I _ _ _ h r) b⟩
theorem dpall_len {K : PySem.W.Frag} {H : Hp} : ∀ {xs : List V} {ps : List PyData}, DpAll K H xs ps → xs.length = ps.length
  | _, _, .nil => rfl
  | _, _, .cons _ t => by rw [List.length_cons, List.length_cons, dpall_len t]
theorem each_vals : ∀ {out : List Value} {bs : List (V × PyData)}, PySem.W.EachIs (fun v (b : V × PyData) => RelV b.1 v) out bs → Vals (bs.map Prod.fst) out
  | _, _, .nil => .nil
  | _, _, .cons r t => .cons r (each_vals t)
theorem zip_snd : ∀ {xs : List V} {ps : List PyData}, xs.length = ps.length → (xs.zip ps).map (fun b => b.2) = ps
  | [], [], _ => rfl
  | x :: xs, p :: ps, h => by rw [List.zip_cons_cons, List.map_cons, zip_snd (by simpa using h)]
theorem callSortD {X : Cx} (hu : X.A.units + 64 < cLine) : CallR X (.builtin "sorted") (rSortD X.K) := by
  intro pins s σ H vs us Q I r h
  obtain ⟨a, xs, ps, rfl, hs, hd, hal, hk, hdp, q⟩ := h
  obtain ⟨its, rv, hl, hz⟩ := I.list hs
  obtain ⟨u, rfl, ru⟩ := vals1 r
  obtain rfl : u = Value.ref a := ru
  obtain ⟨e1, e2⟩ := each_of I hd rv
  have hlen := dpall_len hd
  have ezs : (xs.zip ps).map (fun b => b.2) = ps := zip_snd hlen
  have hzl : (xs.zip ps).length = xs.length := by rw [List.length_zip, hlen, Nat.min_self]
  refine PySem.W.sorted_data (enc := fun b : V × PyData => b.2) hl.isList e1 e2 (by rw [ezs]; exact hal) (by rw [ezs]; exact hk) (by rw [hzl]; exact hz) (fun b hb => ?_) fun out hout he => ?_
  · have := hdp b.2 (List.of_mem_zip hb).2
    omega
  · obtain ⟨c, hc⟩ := sortedAll_at s.heap its out.toArray
    have hn : H (s.heap.objs.size + 1) = none := I.hok.fresh (Nat.le_succ _)
    refine ⟨.ref (s.heap.objs.size + 1), _, I.laid (o := .lst (((xs.zip ps).mergeSort (PySem.W.dataLe false Prod.snd)).map Prod.fst)) (t' := s.toks) (fun _ _ => sortedAll_old) (Nat.le_succ _) ⟨?_, out, c, each_vals he, hc⟩, rfl, q _ hn⟩
    rw [List.length_map, List.length_mergeSort, hzl]
    exact hz
theorem drall_mem {K : PySem.W.Frag} {G : Hp} : ∀ {bs : List (V × Dt)}, (∀ b ∈ bs, Dr K G b.1 b.2) → DrAll K G (bs.map Prod.fst) (bs.map Prod.snd)
  | [], _ => .nil
  | b :: bs, h => .cons (h b List.mem_cons_self) (drall_mem fun c hc => h c (List.mem_cons_of_mem _ hc))
theorem toPys_map {β : Type} {dt : β → Dt} {enc : β → PyData} : ∀ {cs : List β}, (∀ c ∈ cs, toPy (dt c) = some (enc c)) → toPys (cs.map dt) = some (cs.map enc)
  | [], _ => rfl
  | c :: cs, h => by
    rw [List.map_cons, List.map_cons, toPys, h c List.mem_cons_self, toPys_map fun d hd => h d (List.mem_cons_of_mem _ hd)]
theorem drall_map_mem {K : PySem.W.Frag} {G : Hp} {β : Type} {dt : β → Dt} : ∀ {xs : List V} {cs : List β}, DrAll K G xs (cs.map dt) → ∀ b ∈ xs.zip cs, Dr K G b.1 (dt b.2)
  | _, [], _, b, hb => by simp at hb
  | _, c :: cs, .cons r t, b, hb => by
    rcases List.mem_cons.mp hb with rfl | hb
    · exact r
    · exact drall_map_mem t b hb
theorem drall_bs {K : PySem.W.Frag} {G : Hp} {β : Type} {dt : β → Dt} : ∀ {bs : List (V × β)}, (∀ b ∈ bs, Dr K G b.1 (dt b.2)) → DrAll K G (bs.map Prod.fst) ((bs.map Prod.snd).map dt)
  | [], _ => .nil
  | b :: bs, h => .cons (h b List.mem_cons_self) (drall_bs fun c hc => h c (List.mem_cons_of_mem _ hc))
theorem zip_map_snd {β : Type} {enc : β → PyData} : ∀ {xs : List V} {cs : List β}, xs.zip (cs.map enc) = (xs.zip cs).map fun b => (b.1, enc b.2)
  | [], _ => by simp
  | _ :: _, [] => by simp
  | x :: xs, c :: cs => by rw [List.map_cons, List.zip_cons_cons, List.zip_cons_cons, List.map_cons, zip_map_snd]
theorem zip_snd' {β : Type} : ∀ {xs : List V} {cs : List β}, xs.length = cs.length → (xs.zip cs).map Prod.snd = cs
  | [], [], _ => rfl
  | x :: xs, p :: ps, h => by rw [List.zip_cons_cons, List.map_cons, zip_snd' (by simpa using h)]
/-- the sorted values, by what they stand for -/
theorem sort_dr {K : PySem.W.Frag} {G : Hp} {β : Type} {dt : β → Dt} {enc : β → PyData} {xs : List V} {cs : List β} (h : DrAll K G xs (cs.map dt)) :
    DrAll K G (((xs.zip (cs.map enc)).mergeSort (PySem.W.dataLe false Prod.snd)).map Prod.fst) ((cs.mergeSort (PySem.W.dataLe false enc)).map dt) := by
  have hl : xs.length = cs.length := by rw [h.length, List.length_map]
  have e1 : (xs.zip (cs.map enc)).mergeSort (PySem.W.dataLe false Prod.snd) = ((xs.zip cs).mergeSort (PySem.W.dataLe false fun b => enc b.2)).map fun b => (b.1, enc b.2) := by
    rw [zip_map_snd]
    exact (List.map_mergeSort (r := PySem.W.dataLe false fun b : V × β => enc b.2) (s := PySem.W.dataLe false Prod.snd) (f := fun b : V × β => (b.1, enc b.2)) fun a _ b _ => rfl).symm
  have e2 : cs.mergeSort (PySem.W.dataLe false enc) = ((xs.zip cs).mergeSort (PySem.W.dataLe false fun b => enc b.2)).map Prod.snd := by
    rw [List.map_mergeSort (r := PySem.W.dataLe false fun b : V × β => enc b.2) (s := PySem.W.dataLe false enc) (f := Prod.snd) fun a _ b _ => rfl, zip_snd' hl]
  rw [e1, e2, List.map_map]
  have : (Prod.fst ∘ fun (b : V × β) => (b.1, enc b.2)) = Prod.fst := rfl
  rw [this]
  refine drall_bs fun b hb => ?_
  exact drall_map_mem h b ((List.mergeSort_perm _ _).mem_iff.mp hb)
section
variable {W : Wo} {P : Dt → Prop}
theorem cd_sort {β : Type} {cs : List β} {dt : β → Dt} {enc : β → PyData} (h1 : ∀ c ∈ cs, toPy (dt c) = some (enc c)) (h2 : PySem.W.AllAlike (cs.map enc)) (h3 : PySem.W.Sortable (cs.map enc)) (h4 : ∀ c ∈ cs, (enc c).depth ≤ 60)
    (p : P (.lst ((cs.mergeSort (PySem.W.dataLe false enc)).map dt))) : CD W (rSortD W.K) [.lst (cs.map dt)] P := fun G H vs Q g hv k => by
  cases hv with
  | cons r rr =>
    cases rr
    obtain ⟨a, us, rfl, hH, r1⟩ := r.lst g
    have hdp := (r1.mono g.sub).dp (toPys_map h1)
    refine ⟨a, us, cs.map enc, rfl, SqL.of hH, hdp, h2, h3, fun p hp => ?_, fun q hq => ?_⟩
    · obtain ⟨c, hc, rfl⟩ := List.mem_map.mp hp
      exact h4 c hc
    · exact k _ _ (upd G q (.lst _)) _ (Fr.new g hq) (g.new hq) (.lst upd_same ((sort_dr r1).mono (same_new (g.gn hq)))) p

/-! ### divmod -/
def rDm : List V → Hp → VK → Prop := fun xs H Q => ∃ i j, xs = [.int i, .int j] ∧ CDivP i j ∧ ∀ p, H p = none → Q (.ref p) (upd H p (.tup [.int (i / j), .int (i % j)]))
theorem callDm {X : Cx} : CallR X (.builtin "divmod") rDm := call_divmodW
theorem divp_small {i j : Int} (hj : 0 < j) (h : j < 2 ^ 200) : CDivP i j := by
  refine ⟨hj, ?_⟩
  show (decide ((if j == 0 then 0 else j.natAbs.log2 / 30 + 1) > 300) && decide ((if i == 0 then 0 else i.natAbs.log2 / 30 + 1) > (if j == 0 then 0 else j.natAbs.log2 / 30 + 1) + 150)) = false
  rw [if_neg (show ¬ (j == 0) = true by simpa using (show j ≠ 0 by omega))]
  have hl : j.natAbs.log2 < 200 := by
    have h2 : j.natAbs < 2 ^ 200 := by
      have : ((j.natAbs : Nat) : Int) < ((2 ^ 200 : Nat) : Int) := by
        rw [Int.natAbs_of_nonneg (by omega)]
        exact h
      exact Int.ofNat_lt.mp this
    exact PySem.Flt.log2_lt_of (by decide) h2
  rw [decide_eq_false (by omega), Bool.false_and]
theorem cd_dm {i j : Int} (hc : CDivP i j) (p : P (.tup [.int (i / j), .int (i % j)])) : CD W rDm [.int i, .int j] P := fun G H vs Q g hv k => by
  cases hv with
  | cons r rr =>
    cases rr with
    | cons r2 r3 =>
      cases r3
      cases r.int
      cases r2.int
      exact ⟨i, j, rfl, hc, fun q hq => k _ _ (upd G q (.tup _)) _ (Fr.new g hq) (g.new hq) (.tup (.inl (.inl upd_same)) (.cons (.int _) (.cons (.int _) .nil))) p⟩

/-! ### tuple(x), list(x) -/
def rTupOf (K : PySem.W.Frag) : List V → Hp → VK → Prop := fun xs H Q => ∃ p ys, xs = [.ref p] ∧ ((SqL K H p ys ∧ ∀ l, H l = none → Q (.ref l) (upd H l (.tup ys))) ∨ (SqT K H p ys ∧ Q (.ref p) H))
theorem callTupOf {X : Cx} : CallR X (.type "tuple") (rTupOf X.K) := call_tuple_of
def rLstOf (K : PySem.W.Frag) : List V → Hp → VK → Prop := fun xs H Q => ∃ p ys, xs = [.ref p] ∧ (SqL K H p ys ∨ SqT K H p ys) ∧ ∀ l, H l = none → Q (.ref l) (upd H l (.lst ys))
theorem callLstOf {X : Cx} : CallR X (.type "list") (rLstOf X.K) := call_list_of
theorem cd_tupL {ds : List Dt} (p : P (.tup ds)) : CD W (rTupOf W.K) [.lst ds] P := fun G H vs Q g hv k => by
  cases hv with
  | cons r rr =>
    cases rr
    obtain ⟨a, us, rfl, hH, r1⟩ := r.lst g
    exact ⟨a, us, rfl, .inl ⟨SqL.of hH, fun q hq => k _ _ (upd G q (.tup us)) _ (Fr.new g hq) (g.new hq) (.tup (.inl (.inl upd_same)) (r1.mono (same_new (g.gn hq)))) p⟩⟩
theorem cd_tupT {ds : List Dt} (p : P (.tup ds)) : CD W (rTupOf W.K) [.tup ds] P := fun G H vs Q g hv k => by
  cases hv with
  | cons r rr =>
    cases rr
    obtain ⟨a, us, rfl, hH, r1⟩ := r.tup
    exact ⟨a, us, rfl, .inr ⟨sqT_mono g.sub hH, k _ _ G H (Fr.refl _ _ _) g (.tup hH r1) p⟩⟩
end
section
variable {Γ : Cn} {δ : List Sl}
/-- list(x): a new list -/
theorem nl_lstOf {t : TA} {P : List Dt → Prop} (h : RA Γ t δ fun ds => (∃ es, ds = [.lst es] ∧ P es) ∨ ∃ es, ds = [.tup es] ∧ P es) : NL Γ (tCB (rLstOf Γ.W.K) t) δ P := fun G H σ Q at_ k =>
  h G H σ _ at_ fun vs ds G1 H1 f1 g1 d1 hp => by
    rcases hp with ⟨es, rfl, p⟩ | ⟨es, rfl, p⟩
    · cases d1 with
      | cons r rr =>
        cases rr
        obtain ⟨a, us, rfl, hH, r1⟩ := r.lst g1
        exact ⟨a, us, rfl, .inl (SqL.of hH), fun q hq => k q us es G1 _ (f1.trans (Fr.newM g1 hq) (g1.setM (g1.gn hq) (g1.nm hq))) (g1.setM (g1.gn hq) (g1.nm hq)) (fr_back f1 g1 hq) upd_same (g1.gn hq) r1 p⟩
    · cases d1 with
      | cons r rr =>
        cases rr
        obtain ⟨a, us, rfl, hH, r1⟩ := r.tup
        exact ⟨a, us, rfl, .inr (sqT_mono g1.sub hH), fun q hq => k q us es G1 _ (f1.trans (Fr.newM g1 hq) (g1.setM (g1.gn hq) (g1.nm hq))) (g1.setM (g1.gn hq) (g1.nm hq)) (fr_back f1 g1 hq) upd_same (g1.gn hq) r1 p⟩
theorem drall_rg {K : PySem.W.Frag} {G : Hp} (a b : Int) : DrAll K G (rgV a b) (upto a (b - a).toNat) := by
  unfold rgV upto
  generalize List.range (b - a).toNat = l
  induction l with
  | nil => exact .nil
  | cons i l ih => exact .cons (.int _) ih
/-- list(range(n)) -/
theorem nl_lstRg {te : TE} {P : List Dt → Prop} (h : ED Γ te δ fun d => ∃ j : Int, d = .int j ∧ 0 ≤ j ∧ j ≤ 100000 ∧ P (upto 0 j.toNat)) : NL Γ (tLstRg (tRg1 te)) δ P := fun G H σ Q at_ k =>
  h G H σ _ at_ fun v d G1 H1 f1 g1 d1 ⟨j, e, h0, h1, p⟩ => by
    subst e
    cases d1
    refine ⟨j, rfl, RgOk.of_le (Int.le_refl 0) (by omega) (by omega) h0, fun q hq => ?_⟩
    have := drall_rg (K := Γ.W.K) (G := G1) 0 j
    rw [Int.sub_zero] at this
    exact k q _ _ G1 _ (f1.trans (Fr.newM g1 hq) (g1.setM (g1.gn hq) (g1.nm hq))) (g1.setM (g1.gn hq) (g1.nm hq)) (fr_back f1 g1 hq) upd_same (g1.gn hq) this p
theorem ed_tupRg {te : TE} {P : Dt → Prop} (h : ED Γ te δ fun d => ∃ j : Int, d = .int j ∧ 0 ≤ j ∧ j ≤ 100000 ∧ P (.tup (upto 0 j.toNat))) : ED Γ (tTupRg (tRg1 te)) δ P := fun G H σ Q at_ k =>
  h G H σ _ at_ fun v d G1 H1 f1 g1 d1 ⟨j, e, h0, h1, p⟩ => by
    subst e
    cases d1
    refine ⟨j, rfl, RgOk.of_le (Int.le_refl 0) (by omega) (by omega) h0, fun q hq => ?_⟩
    have := drall_rg (K := Γ.W.K) (G := G1) 0 j
    rw [Int.sub_zero] at this
    exact k _ _ (upd G1 q (.tup (rgV 0 j))) _ (f1.trans (Fr.new g1 hq) (g1.new hq)) (g1.new hq) (.tup (.inl (.inl upd_same)) (this.mono (same_new (g1.gn hq)))) p
end
end Pd

set_option Elab.async false
set_option linter.all false
set_option maxRecDepth 100000
set_option maxHeartbeats 2000000
/-! comparisons where an object's own __eq__ answers -/
namespace Po
open PySem PySem.Spec PyProof.Rows
/-- what of the text a class with its own __eq__ has -/
structure Kd (K : PySem.W.Frag) (C : Addr) : Prop where
  cl : L2.Cls K C
  ha : PySem.W.findIn K (.ref C) "__class__" = some (some (.builtin "object.__class__"))
  hn : PySem.W.specialIn K (.builtin "object.__class__") "__get__" = some (some (.builtin "getset_descriptor.__get__"))
  htk : PySem.W.takesIn K (.builtin "object.__class__") = some true
  hm : PySem.W.mroIn K C (.type "object") = some true
  hmt : PySem.W.mroIn K C (.type "tuple") = some false
  ne : PySem.W.findIn K (.ref C) "__ne__" = some (some (.builtin "object.__ne__"))
  kc : ((PySem.W.clsIn K C).isSome && PySem.W.typeIn K (.ref C) == some (.type "type")) = true
/-- a built-in type with no class of the text among its bases -/
def NoRef (T : String) : Prop := ∃ l, fastBuiltinMro T = some l ∧ ∀ C : Addr, l.contains (.ref C) = false
theorem NoRef.sub {T : String} (h : NoRef T) (K : PySem.W.Frag) (C : Addr) : PySem.W.subIn K (.type T) (.ref C) = some false := by
  obtain ⟨l, e, q⟩ := h
  show (fastBuiltinMro T).map (·.contains (.ref C)) = some false
  rw [e]
  exact congrArg some (q C)
theorem noRef_none : NoRef "NoneType" := ⟨[.type "NoneType", .type "object"], by decide +kernel, fun C => by simp⟩
theorem noRef_bool : NoRef "bool" := ⟨[.type "bool", .type "int", .type "object"], by decide +kernel, fun C => by simp⟩
theorem noRef_int : NoRef "int" := ⟨[.type "int", .type "object"], by decide +kernel, fun C => by simp⟩
theorem noRef_str : NoRef "str" := ⟨[.type "str", .type "object"], by decide +kernel, fun C => by simp⟩
theorem noRef_tuple : NoRef "tuple" := ⟨[.type "tuple", .type "object"], by decide +kernel, fun C => by simp⟩
theorem noRef_list : NoRef "list" := ⟨[.type "list", .type "object"], by decide +kernel, fun C => by simp⟩
theorem noRef_dict : NoRef "dict" := ⟨[.type "dict", .type "object"], by decide +kernel, fun C => by simp⟩
section
variable {prog : Program} {w : World} {A : Around} {E : Value → Shared → Prop} {s : Shared} {K : PySem.W.Frag} {x C f : Addr} {ox : Obj} {od : Option Obj}
open Builtin in
/-- b == x, b of a built-in type that declines, x an instance with its own __eq__ -/
theorem rc_refl {b : Value} {T : String} {Q : Value → Shared → Prop} (hu : A.units < cLine) (X : K.In s.heap) (I : PySem.W.InstAt s.heap x ox C od) (hm : PySem.W.mroIn K C (.type T) = some false) (hT : s.TypeIs b T)
    (hone : oneThing? .Eq b (.ref x) = none) (hdec : wpAny (model prog w) A (tryCompare b "__eq__" (.ref x)) (fun r s' => r = none ∧ s' = s) E s)
    (hs : PySem.W.findIn K (.ref C) "__eq__" = some (some (.ref f))) (hf : PySem.W.isFn K (.ref f) = true)
    (h : wpAny (model prog w) A (call (.ref f) [.ref x, b]) (PySem.W.CmpBack Q) E s) : wpAny (model prog w) A (richCompare .Eq b (.ref x)) Q E s := by
  have one : wpAny (model prog w) A (tryCompare (.ref x) "__eq__" b) (fun r s' => ∃ v, r = some v ∧ Q v s') E s := by
    unfold tryCompare
    refine wpAny_bind (PySem.W.ifBound_K X I hs hf (wpAny_mono h (fun v s' hv => ?_) fun _ _ e => e))
    cases v <;> first | exact hv.elim | exact wpAny_pure ⟨_, rfl, hv⟩
  simp only [richCompare, cmpInfo_Eq, hone]
  refine wpAny_holding (wpAny_bind (wpAny_cRoomFor hu ?_))
  refine wpAny_bind (wpAny_typeOf hT ?_)
  refine wpAny_bind (I.type.here ?_)
  rw [show (Value.type T != Value.ref C) = true from by simp]
  simp only [if_true]
  refine wpAny_bind ((PySem.W.looks_mroIn X hm).here ?_)
  simp only [Bool.false_eq_true, if_false, Bool.not_false, if_true]
  refine wpAny_bind (m := tryCompare b _ (.ref x)) (wpAny_mono hdec (fun r s1 z => ?_) fun _ _ e => e)
  obtain ⟨z1, z2⟩ := z
  subst z1
  subst z2
  refine wpAny_bind (m := tryCompare (.ref x) _ b) (wpAny_mono one (fun r s2 z => ?_) fun _ _ e => e)
  obtain ⟨v, rfl, hq⟩ := z
  exact wpAny_pure hq
theorem dec_none : wpAny (model prog w) A (tryCompare .none "__eq__" (.ref x)) (fun r s' => r = none ∧ s' = s) E s :=
  wpAny_tryCompare_declines (show s.TypeIs .none "NoneType" from rfl) F.slot_NoneType_eq_refl (call_gives F.slot_NoneType_eq_refl rfl F.entry_NoneType_eq (F.args_NoneType_eq_2 _ _) (PySem.SeqAt.NoneType___eq___none_ref_0 x) ⟨rfl, rfl, rfl⟩)
theorem int_dec (i : Int) (t : Tok) (x dx C : Addr) : Meets (Builtin.«int.__eq__» ⟨[.int i t, .ref x], []⟩) (fun _ R s => s.heap.get? x = some (PySem.W.instObj C dx) ∧ R (.ok (.ret .notImplemented)) s) :=
  .of_wp fun prog w A R s h => by obtain ⟨hp, g, d, tk, os⟩ := s; obtain ⟨hl, h⟩ := h; wp_walk using wpAny_load hl; exact ⟨_, rfl, h⟩
theorem bool_dec (i : Bool) (x dx C : Addr) : Meets (Builtin.«int.__eq__» ⟨[.bool i, .ref x], []⟩) (fun _ R s => s.heap.get? x = some (PySem.W.instObj C dx) ∧ R (.ok (.ret .notImplemented)) s) :=
  .of_wp fun prog w A R s h => by obtain ⟨hp, g, d, tk, os⟩ := s; obtain ⟨hl, h⟩ := h; wp_walk using wpAny_load hl; exact ⟨_, rfl, h⟩
theorem str_dec (i : Str) (t : Tok) (x dx C : Addr) : Meets (Builtin.«str.__eq__» ⟨[.str i t, .ref x], []⟩) (fun _ R s => s.heap.get? x = some (PySem.W.instObj C dx) ∧ R (.ok (.ret .notImplemented)) s) :=
  .of_wp fun prog w A R s h => by obtain ⟨hp, g, d, tk, os⟩ := s; obtain ⟨hl, h⟩ := h; wp_walk using wpAny_load hl; exact ⟨_, rfl, h⟩
theorem dec_int {i : Int} {t : Tok} {dx : Addr} (hx : s.heap.get? x = some (PySem.W.instObj C dx)) : wpAny (model prog w) A (tryCompare (.int i t) "__eq__" (.ref x)) (fun r s' => r = none ∧ s' = s) E s :=
  wpAny_tryCompare_declines (typeIs_int s i t) F.slot_int_eq_refl (call_meets F.slot_int_eq_refl (typeIs_int s i t) F.entry_int_eq (F.args_int_eq_2 _ _) (int_dec i t x dx C) ⟨hx, rfl, rfl, rfl⟩)
theorem dec_bool {i : Bool} {dx : Addr} (hx : s.heap.get? x = some (PySem.W.instObj C dx)) : wpAny (model prog w) A (tryCompare (.bool i) "__eq__" (.ref x)) (fun r s' => r = none ∧ s' = s) E s :=
  wpAny_tryCompare_declines (show s.TypeIs (.bool i) "bool" from rfl) F.slot_bool_eq_refl (call_meets F.slot_bool_eq_refl (show s.TypeIs (.bool i) "bool" from rfl) F.entry_int_eq (F.args_int_eq_2 _ _) (bool_dec i x dx C) ⟨hx, rfl, rfl, rfl⟩)
theorem dec_str {i : Str} {t : Tok} {dx : Addr} (hx : s.heap.get? x = some (PySem.W.instObj C dx)) : wpAny (model prog w) A (tryCompare (.str i t) "__eq__" (.ref x)) (fun r s' => r = none ∧ s' = s) E s :=
  wpAny_tryCompare_declines (typeIs_str s i t) F.slot_str_eq_refl (call_meets F.slot_str_eq_refl (typeIs_str s i t) F.entry_str_eq (F.args_str_eq_2 _ _) (str_dec i t x dx C) ⟨hx, rfl, rfl, rfl⟩)
open Builtin in
theorem dec_tuple {l : Addr} (hl : s.TypeIs (.ref l) "tuple") (X : K.In s.heap) (I : PySem.W.InstAt s.heap x ox C od) (hm : PySem.W.mroIn K C (.type "tuple") = some false) : wpAny (model prog w) A (tryCompare (.ref l) "__eq__" (.ref x)) (fun r s' => r = none ∧ s' = s) E s := by
  refine wpAny_tryCompare_declines hl F.slot_tuple_eq_refl (GQ.call_here F.slot_tuple_eq_refl hl F.entry_tuple_eq (F.args_tuple_eq_2 _ _) ?_)
  have hi : ∀ {A' : Around} {E' : Value → Shared → Prop} {Q' : Bool → Shared → Prop}, Q' false s → wpAny (model prog w) A' (isInstance (.ref x) (.type "tuple")) Q' E' s := fun q => (show PySem.W.Looks (model prog w) s.heap (isInstance (.ref x) (.type "tuple")) false from I.type.andThen (PySem.W.looks_mroIn X hm)).here q
  unfold Builtin.«tuple.__eq__»
  show wpAny _ _ (slotArgs "__eq__" 1 _ >>= _) _ _ s
  refine wpAny_bind (m := slotArgs "__eq__" 1 _) (wpAny_pure ?_)
  refine wpAny_bind (m := isInstance (.ref x) (.type "tuple")) (hi ?_)
  rw [if_pos (show (!false) = true from rfl)]
  exact wpAny_pure ⟨rfl, rfl, rfl⟩
open Builtin in
/-- x != b, x an instance with its own __eq__ and no __ne__ of its own -/
theorem rc_ne {b tb : Value} {Q : Value → Shared → Prop} (hu : A.units + 1 < cLine) (X : K.In s.heap) (I : PySem.W.InstAt s.heap x ox C od) (hb : PySem.W.Looks (model prog w) s.heap (typeOf b) tb) (hn : PySem.W.notFirst K C tb = true)
    (k : Kd K C) (hs : PySem.W.findIn K (.ref C) "__eq__" = some (some (.ref f))) (hf : PySem.W.isFn K (.ref f) = true)
    (h : wpAny (model prog w) A.in1 (call (.ref f) [.ref x, b]) (fun v s' => ∃ r, v = .bool r ∧ Q (.bool (!r)) s') E s) : wpAny (model prog w) A (richCompare .NotEq (.ref x) b) Q E s := by
  have one : wpAny (model prog w) A (tryCompare (.ref x) "__ne__" b) (fun r s' => ∃ v, r = some v ∧ Q v s') E s := by
    unfold tryCompare
    refine wpAny_bind ?_
    simp only [callSpecialIfBound?, bindSpecialIfBound?]
    refine wpAny_holding (wpAny_bind (wpAny_bind (wpAny_bind (I.type.here ((PySem.W.looks_findIn X k.ne).here ?_)))))
    refine wpAny_bind (wpAny_askSetting (wpAny_ite ?_))
    have fin : wpAny (model prog w) A (call (.builtin "object.__ne__") ([.ref x] ++ [b]) >>= fun v => pure (some v)) (fun a s₁ => wpAny (model prog w) A (match a with | some .notImplemented | none => pure none | some v => pure (some v)) (fun r s' => ∃ v, r = some v ∧ Q v s') E s₁) E s := by
      refine wpAny_bind (wpAny_call (codeAny_call_builtin F.cmp_object.ne.plain F.cmpEntry_ne (PySem.W.check_slot F.cmpKind_ne F.cmpSplit_ne (I.type.andThen (PySem.W.looks_mroIn X k.hm)) (F.cmpArgs_ne _ _) ?_)))
      unfold Builtin.«object.__ne__»
      refine wpAny_bind (m := slotArgs "__ne__" 1 _) (wpAny_pure ?_)
      refine wpAny_bind (m := cRoomFor _ _) (wpAny_cRoomFor hu ?_)
      refine wpAny_bind (m := callSpecialIfBound? (.ref x) (Str.ofString "__eq__") _) (PySem.W.ifBound_K X I hs hf (wpAny_mono h (fun r s' hr => ?_) fun _ _ y => y))
      obtain ⟨r, rfl, hq⟩ := hr
      refine wpAny_bind (m := truthy (.bool r)) (wpAny_truthy_bool ?_)
      exact wpAny_pure (wpAny_pure (wpAny_pure ⟨_, rfl, hq⟩))
    split
    · exact wpAny_bind (wpAny_of_eq (F.cmp_object.ne.bind _) (wpAny_pure (by exact fin)))
    · exact wpAny_tryCatch (wpAny_bind (wpAny_of_eq (F.cmp_object.ne.bind _) (wpAny_pure (by exact fin))))
  simp only [richCompare, cmpInfo_NotEq, oneThing_ref]
  refine wpAny_holding (wpAny_bind (wpAny_cRoomFor (Nat.lt_of_succ_lt hu) ?_))
  refine wpAny_bind (I.type.here (wpAny_bind (hb.here ?_)))
  split
  · rename_i q
    have e : PySem.W.subIn K tb (.ref C) = some false := by
      rcases Bool.or_eq_true_iff.mp hn with e | e
      · rw [beq_iff_eq.mp e] at q; simp at q
      · exact beq_iff_eq.mp e
    refine wpAny_bind ((PySem.W.looks_subIn X e).here ?_)
    simp only [Bool.false_eq_true, if_false]
    refine wpAny_bind (wpAny_mono one (fun r s' z => ?_) fun _ _ e => e)
    obtain ⟨v, rfl, hq⟩ := z
    exact wpAny_pure hq
  · refine wpAny_bind (wpAny_pure ?_)
    simp only [Bool.false_eq_true, if_false]
    refine wpAny_bind (wpAny_mono one (fun r s' z => ?_) fun _ _ e => e)
    obtain ⟨v, rfl, hq⟩ := z
    exact wpAny_pure hq
end
end Po

set_option Elab.async false
set_option linter.all false
set_option maxRecDepth 100000
set_option maxHeartbeats 2000000
namespace Pd
open PySem PySem.Spec PyProof.Rows L2
/-! ### methods and makers, by class -/
structure ClM (P : Program) (w : World) (K : PySem.W.Frag) (mg : Str → Option Value) (base : Heap) (k : Nat) (C : Addr) (m : Str) (sp : Sp) : Prop where
  ex : ∃ (f : Addr) (fd : FuncData) (ps : List Str), FnOk P w K mg base L2.CX0 k f fd ps sp ∧ Meth K C m f ∧ Binds K fd ps []
/-- C(..): all parameters by position -/
structure ClI (P : Program) (w : World) (K : PySem.W.Frag) (mg : Str → Option Value) (base : Heap) (k : Nat) (C : Addr) (x : Str) (sp : Sp) : Prop where
  ex : ∃ (f : Addr) (fd : FuncData) (ps : List Str), FnOk P w K mg base L2.CX0 k f fd ps sp ∧ Mk K C f ∧ mg x = some (.ref C) ∧ Binds K fd ps []
/-- C(e, .., k = v, ..): n by position, ks by name -/
structure ClIK (P : Program) (w : World) (K : PySem.W.Frag) (mg : Str → Option Value) (base : Heap) (k : Nat) (C : Addr) (x : Str) (n : Nat) (ks : List Str) (gV : List V → List V → List V) (sp : Sp) : Prop where
  ex : ∃ (f : Addr) (fd : FuncData) (ps : List Str) (g : List Value → List Value → List Value), FnOk P w K mg base L2.CX0 k f fd ps sp ∧ Mk K C f ∧ mg x = some (.ref C) ∧ KBn K fd ps (n + 1) ks g gV
section
variable {X : Cx} {j k n : Nat} {C : Addr} {x m : Str} {sp : Sp} {p pos apos : Pos} {e o : Expr} {es : List Expr} {t tk : TA} {kws : List Keyword} {ks : List Str} {gV : List V → List V → List V} {ta : TE}
theorem pe_mk (c : ClI X.prog X.w X.K X.mg X.base k C x sp) (hr : Room j X.A) (hk : k + 1 ≤ j) (hg : Gl X x) (ha : PA X (e :: es) t) (hdb : (x == ("__debug__" : Str)) = false := by decide)
    (he : starEach (e :: es) X.env = (false, eval e X.env) :: starEach es X.env := by rfl) (hpl : (backTo pos (starEach es X.env)).any (·.1) = false := by rfl) : PE X (.Call (.Name x p) (e :: es) [] pos) (tMake C sp [] L2.E0 t) := by
  obtain ⟨f, fd, ps, F, h1, h2, h3⟩ := c.ex
  exact pe_make h1 F (hr.mono hk) hg h2 h3 .nil L2.pass0 ha hdb he hpl
theorem pe_mk0 (c : ClI X.prog X.w X.K X.mg X.base k C x sp) (hr : Room j X.A) (hk : k + 1 ≤ j) (hg : Gl X x) (hdb : (x == ("__debug__" : Str)) = false := by decide) : PE X (.Call (.Name x p) [] [] pos) (tMake C sp [] L2.E0 tNil) := by
  obtain ⟨f, fd, ps, F, h1, h2, h3⟩ := c.ex
  exact pe_make0 h1 F (hr.mono hk) hg h2 h3 .nil L2.pass0 hdb
theorem pe_mkK0 (c : ClIK X.prog X.w X.K X.mg X.base k C x 0 ks gV sp) (hr : Room j X.A) (hk : k + 1 ≤ j) (hg : Gl X x) (hkw : PK X kws tk) (hall : (backToKw pos (keywordEach kws X.env)).all (·.1.isSome) = true := by rfl)
    (hks : (backToKw pos (keywordEach kws X.env)).filterMap (·.1) = ks := by rfl) (hdb : (x == ("__debug__" : Str)) = false := by decide)
    (hpl : ((backTo pos (starEach [] X.env)).any (·.1) || (backToKw pos (keywordEach kws X.env)).any (·.1.isNone)) = false := by rfl) : PE X (.Call (.Name x p) [] kws pos) (tMakeK C 0 ks.length sp gV L2.E0 tNil tk) := by
  obtain ⟨f, fd, ps, g, F, h1, h2, h3⟩ := c.ex
  exact pe_makeK0 h1 F (hr.mono hk) hg h2 h3 L2.pass0 hkw hall hks hdb hpl
theorem pe_mkK (c : ClIK X.prog X.w X.K X.mg X.base k C x n ks gV sp) (hr : Room j X.A) (hk : k + 1 ≤ j) (hg : Gl X x) (ha : PA X (e :: es) t) (hkw : PK X kws tk) (hall : (backToKw pos (keywordEach kws X.env)).all (·.1.isSome) = true := by rfl)
    (hks : (backToKw pos (keywordEach kws X.env)).filterMap (·.1) = ks := by rfl) (hdb : (x == ("__debug__" : Str)) = false := by decide)
    (he : starEach (e :: es) X.env = (false, eval e X.env) :: starEach es X.env := by rfl) (hpl : ((backTo pos (starEach (e :: es) X.env)).any (·.1) || (backToKw pos (keywordEach kws X.env)).any (·.1.isNone)) = false := by rfl) :
    PE X (.Call (.Name x p) (e :: es) kws pos) (tMakeK C n ks.length sp gV L2.E0 t tk) := by
  obtain ⟨f, fd, ps, g, F, h1, h2, h3⟩ := c.ex
  exact pe_makeK h1 F (hr.mono hk) hg h2 h3 L2.pass0 ha hkw hall hks hdb he hpl
theorem pe_mt {pl : Sem Bool} (c : ClM X.prog X.w X.K X.mg X.base k C m sp) (cl : Cls X.K C) (hr : Room j X.A) (hk : k ≤ j) (he : PE X o ta) (ha : PA X (e :: es) t)
    (hst : starEach (e :: es) X.env = (false, eval e X.env) :: starEach es X.env := by rfl) (hpl : (backTo pos (starEach es X.env)).any (·.1) = false := by rfl)
    (ht : eval (.Call (.Attribute o m apos) (e :: es) [] pos) X.env = (do
      let ov ← eval o X.env
      standAt apos.atName
      let (f, first) ← holding [ov] (getMethod ov m pl)
      callWith pos f first (backTo pos (starEach (e :: es) X.env)) (backToKw pos (keywordEach [] X.env))) := by rfl) :
    PE X (.Call (.Attribute o m apos) (e :: es) [] pos) (tMeth C m sp [] L2.E0 ta t) := by
  obtain ⟨f, fd, ps, F, h1, h2⟩ := c.ex
  exact pe_meth he cl h1 F (hr.mono hk) h2 .nil L2.pass0 ha hst hpl ht
theorem pe_mt0 {pl : Sem Bool} (c : ClM X.prog X.w X.K X.mg X.base k C m sp) (cl : Cls X.K C) (hr : Room j X.A) (hk : k ≤ j) (he : PE X o ta)
    (ht : eval (.Call (.Attribute o m apos) [] [] pos) X.env = (do
      let ov ← eval o X.env
      standAt apos.atName
      let (f, first) ← holding [ov] (getMethod ov m pl)
      callWith pos f first (backTo pos (starEach [] X.env)) (backToKw pos (keywordEach [] X.env))) := by rfl) :
    PE X (.Call (.Attribute o m apos) [] [] pos) (tMeth C m sp [] L2.E0 ta tNil) := by
  obtain ⟨f, fd, ps, F, h1, h2⟩ := c.ex
  exact pe_meth0 he cl h1 F (hr.mono hk) h2 .nil L2.pass0 ht

/-! ### ==, !=, -x, bool(x) by the class's own defs -/
/-- of the class at C, or of a built-in type -/
def TyN (K : PySem.W.Frag) (C : Addr) (H : Hp) (y : V) : Prop := (∃ b dy gs, y = .ref b ∧ H b = some (.ins C dy gs)) ∨ ∃ T, TyX K H y (.type T) ∧ Po.NoRef T
theorem TyN.looks {K : PySem.W.Frag} {pins : List (Addr × Obj)} {σ : L2.St} {H : Hp} {s : Shared} {y : V} {u : Value} (hK : X.K = K) (I : Inv X pins σ H s) (r : RelV y u) (h : TyN K C H y) :
    ∃ tb, PySem.W.Looks (model X.prog X.w) s.heap (typeOf u) tb ∧ PySem.W.notFirst K C tb = true := by
  subst hK
  rcases h with ⟨b, dy, gs, rfl, hb⟩ | ⟨T, ty, nr⟩
  · cases r
    obtain ⟨mA, J, _⟩ := ins_get I.hok hb
    obtain ⟨od, J, _⟩ := J.look
    exact ⟨.ref C, J.type, by simp [PySem.W.notFirst]⟩
  · obtain ⟨P, Z, p, _⟩ := kit_of I r ty
    refine ⟨.type T, Z.ty _ _ I.kIn p, ?_⟩
    unfold PySem.W.notFirst
    rw [nr.sub X.K C]
    simp
def rEqO (K : PySem.W.Frag) (C : Addr) (sp : Sp) : R2 := fun x y H Q => ∃ a dx fs, x = .ref a ∧ H a = some (.ins C dx fs) ∧ TyN K C H y ∧ sp [x, y] H (fun v H' => ∃ b, v = .bl b ∧ Q v H') L2.E0
theorem opEqO (c : ClM X.prog X.w X.K X.mg X.base k C "__eq__" sp) (hr : Room j X.A) (hk : k ≤ j) : OpR X (compareOp .Eq) (rEqO X.K C sp) := by
  intro pins s σ H x y v u Q I rx ry h
  obtain ⟨a, dx, fs, rfl, ha, ty, q⟩ := h
  obtain rfl : v = Value.ref a := rx
  obtain ⟨f, fd, ps, F, hm, hb⟩ := c.ex
  obtain ⟨mA, J, _⟩ := ins_get I.hok ha
  obtain ⟨od, J, _⟩ := J.look
  obtain ⟨tb, hl, hn⟩ := ty.looks rfl I ry
  obtain ⟨m, hF⟩ := I.fr
  refine PySem.W.cmp_K (op := .Eq) (tb := tb) hr.units0 hF I.ok.mod.kin J hl hn hm.at_ hm.fn ?_
  refine thn (run_fn (us := [.ref a, u]) (vs := [.ref a, y]) F (hr.mono hk) hb .nil L2.pass0 I (.cons rfl (.cons ry .nil)) q) fun z s1 ⟨zv, H1, I1, rz, b, e, q1⟩ => ?_
  subst e
  cases rz
  exact ⟨.bl b, H1, I1, rfl, q1⟩
def rEqRf (K : PySem.W.Frag) (C : Addr) (sp : Sp) : R2 := fun y x H Q => ∃ a dx fs, x = .ref a ∧ H a = some (.ins C dx fs) ∧ (y = .non ∨ (∃ i, y = .int i) ∨ (∃ b, y = .bl b) ∨ (∃ z, y = .str z) ∨ ∃ t xs, y = .ref t ∧ SqT K H t xs) ∧ sp [x, y] H (fun v H' => ∃ b, v = .bl b ∧ Q v H') L2.E0
theorem opEqRf (kd : Po.Kd X.K C) (hN : PySem.W.mroIn X.K C (.type "NoneType") = some false) (hi : PySem.W.mroIn X.K C (.type "int") = some false) (hb' : PySem.W.mroIn X.K C (.type "bool") = some false) (hs' : PySem.W.mroIn X.K C (.type "str") = some false)
    (c : ClM X.prog X.w X.K X.mg X.base k C "__eq__" sp) (hr : Room j X.A) (hk : k ≤ j) : OpR X (compareOp .Eq) (rEqRf X.K C sp) := by
  intro pins s σ H y x u v Q I ry rx h
  obtain ⟨a, dx, fs, rfl, ha, hy, q⟩ := h
  obtain rfl : v = Value.ref a := rx
  obtain ⟨f, fd, ps, F, hm, hb⟩ := c.ex
  obtain ⟨mA, J0, _⟩ := ins_get I.hok ha
  obtain ⟨od, J, _⟩ := J0.look
  have fin : wpAny (model X.prog X.w) X.A (call (.ref f) [.ref a, u]) (PySem.W.CmpBack (EP X pins σ Q)) X.xe s := by
    refine thn (run_fn (us := [.ref a, u]) (vs := [.ref a, y]) F (hr.mono hk) hb .nil L2.pass0 I (.cons rfl (.cons ry .nil)) q) fun z s1 ⟨zv, H1, I1, rz, b, e, q1⟩ => ?_
    subst e
    cases rz
    exact ⟨.bl b, H1, I1, rfl, q1⟩
  show wpAny _ _ (richCompare .Eq u (.ref a)) _ _ _
  rcases hy with rfl | ⟨i, rfl⟩ | ⟨i, rfl⟩ | ⟨i, rfl⟩ | ⟨t, xs, rfl, ht⟩
  · cases ry
    exact Po.rc_refl hr.units0 I.kIn J hN (show s.TypeIs .none "NoneType" from rfl) rfl Po.dec_none hm.at_ hm.fn fin
  · obtain ⟨tk, rfl⟩ := ry
    exact Po.rc_refl hr.units0 I.kIn J hi (typeIs_int s i tk) rfl (Po.dec_int J.at_) hm.at_ hm.fn fin
  · cases ry
    exact Po.rc_refl hr.units0 I.kIn J hb' (show s.TypeIs (.bool i) "bool" from rfl) rfl (Po.dec_bool J.at_) hm.at_ hm.fn fin
  · obtain ⟨tk, rfl⟩ := ry
    exact Po.rc_refl hr.units0 I.kIn J hs' (typeIs_str s i tk) rfl (Po.dec_str J.at_) hm.at_ hm.fn fin
  · cases ry
    obtain ⟨its, rv, p, hz⟩ := I.tuple ht
    exact Po.rc_refl hr.units0 I.kIn J kd.hmt p.typeIs rfl (Po.dec_tuple p.typeIs I.kIn J kd.hmt) hm.at_ hm.fn fin
def rNeO (K : PySem.W.Frag) (C : Addr) (sp : Sp) : R2 := fun x y H Q => ∃ a dx fs, x = .ref a ∧ H a = some (.ins C dx fs) ∧ TyN K C H y ∧ sp [x, y] H (fun v H' => ∃ b, v = .bl b ∧ Q (.bl (!b)) H') L2.E0
theorem opNeO (kd : Po.Kd X.K C) (c : ClM X.prog X.w X.K X.mg X.base k C "__eq__" sp) (hr : Room j X.A) (hk : k + 1 ≤ j) : OpR X (compareOp .NotEq) (rNeO X.K C sp) := by
  intro pins s σ H x y v u Q I rx ry h
  obtain ⟨a, dx, fs, rfl, ha, ty, q⟩ := h
  obtain rfl : v = Value.ref a := rx
  obtain ⟨f, fd, ps, F, hm, hb⟩ := c.ex
  obtain ⟨mA, J, _⟩ := ins_get I.hok ha
  obtain ⟨od, J, _⟩ := J.look
  obtain ⟨tb, hl, hn⟩ := ty.looks rfl I ry
  have hun := hr.units
  refine Po.rc_ne (tb := tb) (by omega) I.kIn J hl hn kd hm.at_ hm.fn ?_
  have e0 : Env0 X.prog X.w X.K X.mg X.base X.A.in1 X.stack s H := I.env0.in1
  have r2 : Vals [V.ref a, y] [Value.ref a, u] := .cons rfl (.cons ry .nil)
  have hln := F.len _ _ _ _ q
  have bb := hb s [.ref a, u] I.kIn (by simpa using hln)
  refine wpAny_call (codeAny_mono (F.run X.A.in1 X.stack s H ⟨[.ref a, u], []⟩ [.ref a, u] [.ref a, y] _ L2.E0 (hr.mono hk).in1 e0 (by simpa using bb) r2 q) fun r s' hq => ?_)
  match r, hq with
  | .error _, hq => exact False.elim hq
  | .ok .next, hq => exact False.elim hq
  | .ok .brk, hq => exact False.elim hq
  | .ok .cont, hq => exact False.elim hq
  | .ok (.ret w), hq =>
    obtain ⟨z, H', I', rz, b, e, q1⟩ := I.after hq
    subst e
    cases rz
    exact ⟨b, rfl, .bl (!b), H', I', rfl, q1⟩
def rNegO (C : Addr) (sp : Sp) : V → Hp → VK → Prop := fun x H Q => ∃ a dx fs, x = .ref a ∧ H a = some (.ins C dx fs) ∧ sp [x] H Q L2.E0
theorem un_negO (c : ClM X.prog X.w X.K X.mg X.base k C "__neg__" sp) (hr : Room j X.A) (hk : k ≤ j) : UnR X (unaryOp .USub) (rNegO C sp) := by
  intro pins s σ H x v Q I rx h
  obtain ⟨a, dx, fs, rfl, ha, q⟩ := h
  obtain rfl : v = Value.ref a := rx
  obtain ⟨f, fd, ps, F, hm, hb⟩ := c.ex
  obtain ⟨mA, J, _⟩ := ins_get I.hok ha
  obtain ⟨od, J, _⟩ := J.look
  obtain ⟨m, hF⟩ := I.fr
  refine PySem.W.ksp_neg hF I.ok.mod.kin J hm.at_ hm.fn ?_
  exact run_fn (us := [.ref a]) (vs := [.ref a]) F (hr.mono hk) hb .nil L2.pass0 I (.cons rfl .nil) q
end
/-! bool(x) of an object without __bool__ and __len__ -/
theorem truthy0 {M : Model} {A : Around} {E : Value → Shared → Prop} {s : Shared} {K : PySem.W.Frag} {x C : Addr} {ox : Obj} {od : Option Obj} {Q : Bool → Shared → Prop} (X : K.In s.heap) (I : PySem.W.InstAt s.heap x ox C od)
    (hs : PySem.W.findIn K (.ref C) "__bool__" = some none) (hl : PySem.W.findIn K (.ref C) "__len__" = some none) (h : Q true s) : wpAny M A (truthy (.ref x)) Q E s := by
  unfold truthy
  refine wpAny_bind (m := callSpecial? (.ref x) (Str.ofString "__bool__")) (wpAny_bind (wpAny_bind (I.type.here ((PySem.W.looks_findIn X hs).here (wpAny_pure ?_)))))
  refine wpAny_bind (wpAny_bind (I.type.here ((PySem.W.looks_findIn X hl).here ?_)))
  exact wpAny_pure h
theorem meets_bool_obj {K : PySem.W.Frag} {x C : Addr} {ox : Obj} {od : Option Obj} (hs' : PySem.W.findIn K (.ref C) "__bool__" = some none) (hl' : PySem.W.findIn K (.ref C) "__len__" = some none) :
    Meets (Builtin.«bool.__new__» ⟨[.type "bool", .ref x], []⟩) (fun _ R s => (K.In s.heap ∧ PySem.W.InstAt s.heap x ox C od) ∧ R (.ok (.ret (.bool true))) s) :=
  Meets.of_wp fun prog w A R s hs => by
    obtain ⟨⟨hX, hI⟩, hs⟩ := hs
    obtain ⟨hp, g, d, tk, os⟩ := s
    have f1 := F.conv_sub_bool
    repeat (any_goals (first | assumption | (with_reducible refine truthy0 hX hI hs' hl' ?_) | wp_step))
    all_goals first | exact ⟨_, rfl, hs⟩ | exact hs | skip
def rBoolO (C : Addr) : List V → Hp → VK → Prop := fun xs H Q => ∃ a dx fs, xs = [.ref a] ∧ H a = some (.ins C dx fs) ∧ Q (.bl true) H
theorem callBoolO {X : Cx} {C : Addr} (hs : PySem.W.findIn X.K (.ref C) "__bool__" = some none) (hl : PySem.W.findIn X.K (.ref C) "__len__" = some none) : CallR X (.type "bool") (rBoolO C) := by
  intro pins s σ H xs us Q I r h
  obtain ⟨a, dx, fs, rfl, ha, q⟩ := h
  obtain ⟨u, rfl, ru⟩ := vals1 r
  obtain rfl : u = Value.ref a := ru
  obtain ⟨mA, J, _⟩ := ins_get I.hok ha
  obtain ⟨od, J, _⟩ := J.look
  exact call_bool_1 (meets_bool_obj (K := X.K) hs hl) ⟨⟨I.kIn, J⟩, rfl, .bl true, H, I, rfl, q⟩
end Pd

set_option Elab.async false
set_option linter.all false
set_option maxRecDepth 100000
set_option maxHeartbeats 2000000
namespace Pd
open PySem PySem.Spec PyProof.Rows L2
/-! ### fields -/
def putD (f : Str) (v : Dt) : List (Str × Dt) → List (Str × Dt)
  | [] => [(f, v)]
  | (g, x) :: r => if g = f then (g, v) :: r else (g, x) :: putD f v r
theorem DrFs.put {K : PySem.W.Frag} {G : Hp} {f : Str} {v : V} {d : Dt} (r : Dr K G v d) : ∀ {fs : List (Str × V)} {ds : List (Str × Dt)}, DrFs K G fs ds → DrFs K G (putF f v fs) (putD f d ds)
  | _, _, .nil => .cons r .nil
  | _, _, .cons (f := g) h t => by
    unfold putF putD
    by_cases q : g = f
    · rw [if_pos q, if_pos q]
      exact .cons r t
    · rw [if_neg q, if_neg q]
      exact .cons h (DrFs.put r t)
theorem DrFs.length {K : PySem.W.Frag} {G : Hp} : ∀ {fs : List (Str × V)} {ds : List (Str × Dt)}, DrFs K G fs ds → fs.length = ds.length
  | _, _, .nil => rfl
  | _, _, .cons _ t => by rw [List.length_cons, List.length_cons, DrFs.length t]
section
variable {Γ : Cn} {δ : List Sl} {ta tv te : TE} {P : Dt → Prop} {f : Str} {C : Sf} {D : De}
theorem ed_fld (h : ED Γ ta δ fun d => ∃ C fs x, d = .obj C fs ∧ Cls Γ.W.K C ∧ NoAttr Γ.W.K C f ∧ fs.lookup f = some x ∧ P x) : ED Γ (tFld Γ.W.K ta f) δ P := fun G H σ Q at_ k =>
  h G H σ _ at_ fun v d G1 H1 f1 g1 d1 ⟨C, fs, x, e, c, n, l, p⟩ => by
    subst e
    cases d1 with
    | @obj a _ dx vs _ h1 h2 h3 =>
      obtain ⟨v, hv, rv⟩ := h3.look l
      exact ⟨a, C, dx, vs, v, rfl, g1.sub _ _ h1, c, n, hv, k v x G1 H1 f1 g1 rv p⟩
/-- self.f = v in __init__ -/
theorem sd_fld {i : Nat} {fs : List (Str × Dt)} (hi : δ[i]? = some (.slf C fs)) (hl : fs.length < 1000) (c : Cls Γ.W.K C.C) (n : NoAttr Γ.W.K C.C f) (h : ED Γ tv δ fun d => D.nx (δ.set i (.slf C (putD f d fs)))) : SD Γ (sFld Γ.W.K (tVar i) tv f) δ D := fun G H σ E at_ hn hr hb hc =>
  h G H σ _ at_ fun v d G1 H1 f1 g1 d1 p => by
    have at1 := at_.step f1 g1
    obtain ⟨a, dx, vs, h1, h2, h3, h4, h5, h6, h7, h8, h9, h10⟩ := at1.env.slf i C fs hi
    have hax : dx ≠ a := fun z => by rw [z, h2] at h3; cases h3
    have hlen : i < δ.length := (List.getElem?_eq_some_iff.mp hi).1
    refine ⟨.ref a, h1, a, C.C, dx, vs, rfl, h2, c, n, by rw [h10.length]; exact hl, ?_⟩
    refine hn _ G1 _ σ f1.g ⟨⟨at1.fr.g, fun b u e gb => ?_⟩, at1.gd.setM h4 h8, ?_⟩ p
    · obtain ⟨k1, k2⟩ := at1.fr.o b u e gb
      refine ⟨k1, fun hm => ?_⟩
      have hb : b ≠ a := fun z => by rw [z, h6] at e; cases e
      rw [upd_ne hb]
      exact k2 hm
    · exact {
        len := by rw [List.length_set]; exact at1.env.len
        dat := fun j d' hj => by
          rw [set_get] at hj
          by_cases q : i = j
          · rw [if_pos q, if_pos hlen] at hj
            cases hj
          · rw [if_neg q] at hj
            exact at1.env.dat j d' hj
        mu := fun j ds hj => by
          rw [set_get] at hj
          by_cases q : i = j
          · rw [if_pos q, if_pos hlen] at hj
            cases hj
          · rw [if_neg q] at hj
            obtain ⟨b, ys, k1, k2, k3, k4, k5, k6⟩ := at1.env.mu j ds hj
            have hb : b ≠ a := fun z => by rw [z, h2] at k2; cases k2
            exact ⟨b, ys, k1, by rw [upd_ne hb]; exact k2, k3, k4, k5, k6⟩
        slf := fun j C' fds hj => by
          rw [set_get] at hj
          by_cases q : i = j
          · rw [if_pos q, if_pos hlen] at hj
            cases hj
            subst q
            exact ⟨a, dx, _, h1, upd_same, by rw [upd_ne hax]; exact h3, h4, h5, h6, h7, h8, h9, h10.put d1⟩
          · rw [if_neg q] at hj
            obtain ⟨b, db, ys, k1, k2, k3, k4, k5, k6, k7, k8, k9, k10⟩ := at1.env.slf j C' fds hj
            have hb : b ≠ a := fun z => at1.env.sep i j a _ _ q hi hj rfl rfl h1 (z ▸ k1)
            have hb2 : db ≠ a := fun z => by rw [z, h2] at k3; cases k3
            exact ⟨b, db, ys, k1, by rw [upd_ne hb]; exact k2, by rw [upd_ne hb2]; exact k3, k4, k5, k6, k7, k8, k9, k10⟩
        sep := fun j k b s t hjk hj hk so to z => by
          rw [set_get] at hj hk
          have hj' : ∃ s', δ[j]? = some s' ∧ s'.own = true := by
            by_cases q : i = j
            · exact ⟨_, q ▸ hi, rfl⟩
            · rw [if_neg q] at hj
              exact ⟨_, hj, so⟩
          have hk' : ∃ s', δ[k]? = some s' ∧ s'.own = true := by
            by_cases q : i = k
            · exact ⟨_, q ▸ hi, rfl⟩
            · rw [if_neg q] at hk
              exact ⟨_, hk, to⟩
          obtain ⟨s', e1, e2⟩ := hj'
          obtain ⟨t', e3, e4⟩ := hk'
          exact at1.env.sep j k b s' t' hjk e1 e3 e2 e4 z }
end

/-! ### __init__ -/
def spI (K : PySem.W.Frag) (C : Addr) (n : Nat) (Pre : Wo → List Dt → Prop) (R : List Dt → List (Str × Dt) → Prop) : Sp := fun vs H Q _ => vs.length = n + 1 ∧ ∃ W ds G H1 x dx us, vs = .ref x :: us ∧ W.K = K ∧ H = upd (upd H1 dx (.own x)) x (.ins C dx []) ∧ H1 x = none ∧ H1 dx = none ∧ dx ≠ x ∧
  Good W G H1 ∧ DrAll K G us ds ∧ Pre W ds ∧ ∀ G' H' fs fds, Fr W G H1 G' H' → Good W G' H' → H' x = some (.ins C dx fs) → H' dx = some (.own x) → G' x = none → G' dx = none → DrFs K G' fs fds → R ds fds → Q .non H'
def slotsI (C : Sf) (n : Nat) (ds : List Dt) : List Sl := .slf C [] :: (ds.map .dat ++ List.replicate (n - (ds.length + 1)) .un)
theorem at_startI {W : Wo} {G H1 : Hp} {x dx C : Addr} {N : List Str} {us : List V} {ds : List Dt} (g : Good W G H1) (hx : H1 x = none) (hd : H1 dx = none) (hne : dx ≠ x) (r : DrAll W.K G us ds) :
    At (cn0 W G H1) (slotsI ⟨x, dx, C⟩ N.length ds) G (upd (upd H1 dx (.own x)) x (.ins C dx [])) (L2.start N (.ref x :: us)) := by
  have hl := r.length
  have g1 : Good W G (upd H1 dx (.own x)) := g.setM (g.gn hd) (g.nm hd)
  have hx1 : (upd H1 dx (.own x)) x = none := by rw [upd_ne hne.symm]; exact hx
  have g2 : Good W G (upd (upd H1 dx (.own x)) x (.ins C dx [])) := g1.setM (g.gn hx) (g.nm hx)
  have key : ∀ (i : Nat) (s : Sl), (slotsI ⟨x, dx, C⟩ N.length ds)[i]? = some s → s ≠ .un → (i = 0 ∧ s = .slf ⟨x, dx, C⟩ []) ∨ ∃ j d, i = j + 1 ∧ ds[j]? = some d ∧ s = .dat d := by
    intro i s h hs
    unfold slotsI at h
    cases i with
    | zero => exact .inl ⟨rfl, (Option.some.inj h).symm⟩
    | succ i =>
      right
      rw [List.getElem?_cons_succ] at h
      by_cases hi : i < (ds.map Sl.dat).length
      · rw [List.getElem?_append_left hi, List.getElem?_map] at h
        cases q : ds[i]? with
        | none => rw [q] at h; cases h
        | some d =>
          rw [q] at h
          exact ⟨i, d, rfl, q, (Option.some.inj h).symm⟩
      · rw [List.getElem?_append_right (by omega), List.getElem?_replicate] at h
        split at h
        · cases h
          exact absurd rfl hs
        · cases h
  have st0 : (L2.start N (.ref x :: us))[0]? = some (some (.ref x)) := rfl
  refine ⟨(Fr.newM g hd).trans (Fr.newM g1 hx1) g2, g2, ⟨?_, ?_, ?_, ?_, ?_⟩⟩
  · unfold L2.start slotsI
    simp only [List.map_cons, List.cons_append, List.length_cons, List.length_append, List.length_map, List.length_replicate, hl]
  · intro i d h
    rcases key i _ h (by intro z; cases z) with ⟨_, e⟩ | ⟨j, d', rfl, hd', e⟩
    · cases e
    · cases e
      obtain ⟨v, hv, rr⟩ := r.getD hd'
      refine ⟨v, ?_, rr⟩
      unfold L2.start
      rw [List.map_cons, List.cons_append, List.getElem?_cons_succ, List.getElem?_append_left (by rw [List.length_map]; exact (List.getElem?_eq_some_iff.mp hv).1), List.getElem?_map, hv]
      rfl
  · intro i ds' h
    rcases key i _ h (by intro z; cases z) with ⟨_, e⟩ | ⟨j, d', rfl, hd', e⟩
    · cases e
    · cases e
  · intro i C' fds h
    rcases key i _ h (by intro z; cases z) with ⟨rfl, e⟩ | ⟨j, d', rfl, hd', e⟩
    · cases e
      exact ⟨x, dx, [], st0, upd_same, by rw [upd_ne hne]; exact upd_same, g.gn hx, g.gn hd, hx, ⟨hd, rfl, rfl⟩, g.nm hx, g.nm hd, .nil⟩
    · cases e
  · intro i j a s t hij hs ht so to z
    rcases key i _ hs (by intro z; rw [z] at so; cases so) with ⟨rfl, e⟩ | ⟨j', d', rfl, hd', e⟩
    · rcases key j _ ht (by intro z; rw [z] at to; cases to) with ⟨rfl, e⟩ | ⟨j', d', rfl, hd', e⟩
      · exact absurd rfl hij
      · rw [e] at to; cases to
    · rw [e] at so; cases so
/-- from __init__'s body to its promise: at the end slot 0 holds the fields -/
theorem body_ofI {K : PySem.W.Frag} {C : Addr} {n : Nat} {Pre : Wo → List Dt → Prop} {R : List Dt → List (Str × Dt) → Prop} {N : List Str} {t : TS} {vs : List V} {H : Hp} {Q : VK} {E : XK}
    (h : ∀ (Γ : Cn) ds (S : Sf), S.C = C → Γ.W.K = K → ds.length = n → Pre Γ.W ds → SD Γ t (slotsI S N.length ds) { nx := fun δ' => ∃ fds, δ'[0]? = some (.slf S fds) ∧ R ds fds, rt := fun _ => False }) (hs : spI K C n Pre R vs H Q E) :
    t { nx := fun _ H' => Q .non H', rt := Q } (L2.start N vs) H := by
  obtain ⟨hl, W, ds, G, H1, x, dx, us, rfl, rfl, rfl, hx, hd, hne, g, r, p, k⟩ := hs
  have hlen : ds.length = n := by
    rw [← r.length]
    simpa using hl
  refine h (cn0 W G H1) ds ⟨x, dx, C⟩ rfl rfl hlen p G _ (L2.start N (.ref x :: us)) _ (at_startI g hx hd hne r) ?_ ?_ ?_ ?_
  · intro δ' G' H' σ' e a ⟨fds, hf, q⟩
    obtain ⟨a0, dx0, fs, h1, h2, h3, h4, h5, h6, ⟨h7, e1, e2⟩, h8, h9, h10⟩ := a.env.slf 0 _ fds hf
    have e1 : a0 = x := e1
    have e2 : dx0 = dx := e2
    subst e1 e2
    exact k G' H' fs fds a.fr a.gd h2 h3 h4 h5 h10 q
  · intro v d G' H' f g' rr q
    exact q.elim
  · intro δ' G' H' σ' e a q
    exact q.elim
  · intro δ' G' H' σ' e a q
    exact q.elim
/-! ### C(..) -/
theorem made_ok {W : Wo} {G H1 G' H' : Hp} {x dx C : Addr} {fs : List (Str × V)} {fds : List (Str × Dt)} (g0 : Good W G H1) (hx : H1 x = none) (hd : H1 dx = none) (hne : dx ≠ x) (f : Fr W G H1 G' H') (g : Good W G' H') (h1 : H' x = some (.ins C dx fs)) (h2 : H' dx = some (.own x)) (h3 : G' x = none) (h4 : G' dx = none) (r : DrFs W.K G' fs fds) :
    ∃ G2, Fr W G H1 G2 H' ∧ Good W G2 H' ∧ Dr W.K G2 (.ref x) (.obj C fds) := by
  have hd3 : (upd G' x (.ins C dx fs)) dx = none := by rw [upd_ne hne]; exact h4
  have s1 : Same G' (upd (upd G' x (.ins C dx fs)) dx (.own x)) := (same_new h3).trans (same_new hd3)
  refine ⟨upd (upd G' x (.ins C dx fs)) dx (.own x), ⟨f.g.trans s1, fun b u e gb => ?_⟩, ⟨fun b u e => ?_, fun b e => ?_⟩, ?_⟩
  · rw [upd_ne (ne_of_none e hd), upd_ne (ne_of_none e hx)]
    exact f.o b u e gb
  · by_cases q : b = dx
    · subst q
      rw [upd_same] at e
      cases e
      exact h2
    · rw [upd_ne q] at e
      by_cases q2 : b = x
      · subst q2
        rw [upd_same] at e
        cases e
        exact h1
      · rw [upd_ne q2] at e
        exact g.sub b u e
  · obtain ⟨k1, o, k2, k3⟩ := g.st b e
    have nb1 : b ≠ dx := fun q => g0.nm hd (q ▸ e)
    have nb2 : b ≠ x := fun q => g0.nm hx (q ▸ e)
    rw [upd_ne nb1, upd_ne nb2]
    exact ⟨k1, o, k2, k3⟩
  · exact .obj (by rw [upd_ne hne.symm]; exact upd_same) upd_same (r.mono s1)
section
variable {Γ : Cn} {δ : List Sl} {P : Dt → Prop} {C : Addr} {n : Nat} {Pre : Wo → List Dt → Prop} {E : XK} {t tk : TA}
theorem ed_make {R : List Dt → List (Str × Dt) → Prop} (h : AD Γ t δ fun ds => ds.length = n ∧ Pre Γ.W ds ∧ ∀ fds, R ds fds → P (.obj C fds)) : ED Γ (tMake C (spI Γ.W.K C n Pre R) [] E t) δ P := fun G H σ Q at_ k =>
  h G H σ _ at_ fun vs ds G1 H1 f1 g1 d1 ⟨hl, p1, p2⟩ => by
    intro x dx hx hd hne
    rw [List.append_nil]
    refine ⟨by rw [List.length_cons, d1.length, hl], Γ.W, ds, G1, H1, x, dx, vs, rfl, rfl, rfl, hx, hd, hne, g1, d1, p1, fun G' H' fs fds f g h1 h2 h3 h4 r q => ⟨rfl, ?_⟩⟩
    obtain ⟨G2, f2, g2, r2⟩ := made_ok g1 hx hd hne f g h1 h2 h3 h4 r
    exact k _ _ G2 H' (f1.trans f2 g2) g2 r2 (p2 fds q)
/-- with keywords: gV puts the values (defaults among them) in their order; gD does so with data -/
theorem ed_makeK {R : List Dt → List (Str × Dt) → Prop} {n1 m : Nat} {gV : List V → List V → List V} {gD : List Dt → List Dt → List Dt} (hg : ∀ x vs zs, ∃ us, gV (.ref x :: vs) zs = .ref x :: us ∧ ∀ G ds es, DrAll Γ.W.K G vs ds → DrAll Γ.W.K G zs es → DrAll Γ.W.K G us (gD ds es))
    (h : AD Γ t δ fun ds => AD Γ tk δ fun es => ds.length = n1 ∧ es.length = m ∧ (gD ds es).length = n ∧ Pre Γ.W (gD ds es) ∧ ∀ fds, R (gD ds es) fds → P (.obj C fds)) : ED Γ (tMakeK C n1 m (spI Γ.W.K C n Pre R) gV E t tk) δ P := fun G H σ Q at_ k =>
  h G H σ _ at_ fun vs ds G0 H0 f0 g0 d0 h2 => h2 G0 H0 σ _ (at_.step f0 g0) fun zs es G1 H1 f1 g1 d1 ⟨l1, l2, l3, p1, p2⟩ => by
    refine ⟨d0.length.trans l1, d1.length.trans l2, fun x dx hx hd hne => ?_⟩
    obtain ⟨us, eu, hu⟩ := hg x vs zs
    have du := hu G1 ds es (d0.mono f1.g) d1
    rw [eu]
    refine ⟨by rw [List.length_cons, du.length, l3], Γ.W, gD ds es, G1, H1, x, dx, us, rfl, rfl, rfl, hx, hd, hne, g1, du, p1, fun G' H' fs fds f g h1 h2 h3 h4 r q => ⟨rfl, ?_⟩⟩
    obtain ⟨G2, f2, g2, r2⟩ := made_ok g1 hx hd hne f g h1 h2 h3 h4 r
    exact k _ _ G2 H' ((f0.trans f1 g1).trans f2 g2) g2 r2 (p2 fds q)
/-! ### o.m(..) -/
theorem ed_meth {R : List Dt → Dt → Prop} {ta : TE} {m : Str} (h : ED Γ ta δ fun d => ∃ fs, d = .obj C fs ∧ fs.lookup m = none ∧ AD Γ t δ fun ds => ds.length + 1 = n ∧ Pre Γ.W (.obj C fs :: ds) ∧ ∀ r, R (.obj C fs :: ds) r → P r) : ED Γ (tMeth C m (spW Γ.W.K n Pre R) [] E ta t) δ P := fun G H σ Q at_ k =>
  h G H σ _ at_ fun v d G0 H0 f0 g0 d0 ⟨fs, e, hl, h2⟩ => by
    subst e
    cases d0 with
    | @obj a _ dx us _ h1 h3 h4 =>
      refine ⟨a, dx, us, rfl, g0.sub _ _ h1, h4.lookN hl, ?_⟩
      refine h2 G0 H0 σ _ (at_.step f0 g0) fun vs ds G1 H1 f1 g1 d1 ⟨l1, p1, p2⟩ => ?_
      rw [List.append_nil]
      have dall : DrAll Γ.W.K G1 (.ref a :: vs) (.obj C fs :: ds) := .cons ((Dr.obj h1 h3 h4).mono f1.g) d1
      exact ⟨by rw [dall.length, List.length_cons, l1], Γ.W, _, G1, rfl, g1, dall, p1, fun v d G' H' f g r q => k v d G' H' ((f0.trans f1 g1).trans f g) g r (p2 d q)⟩
end
/-! ### ==, !=, -x, bool, isinstance -/
section
variable {W : Wo} {P : Dt → Prop} {C : Addr} {Pre : Wo → List Dt → Prop} {R : List Dt → Dt → Prop} {fs : List (Str × Dt)} {y : Dt}
/-- of a built-in type -/
theorem tyD_noRef {T : String} (h : tyD y = some T) : Po.NoRef T := by
  cases y <;> first | (cases h; first | exact Po.noRef_none | exact Po.noRef_bool | exact Po.noRef_int | exact Po.noRef_str | exact Po.noRef_tuple | exact Po.noRef_list | exact Po.noRef_dict) | cases h
theorem tyN_of {G H : Hp} {v : V} (g : Good W G H) (h : Dr W.K G v y) (hy : (∃ gs, y = .obj C gs) ∨ ∃ T, tyD y = some T) : TyN W.K C H v := by
  rcases hy with ⟨gs, rfl⟩ | ⟨T, e⟩
  · cases h with
    | @obj a _ dx us _ h1 h2 h3 => exact .inl ⟨a, dx, us, rfl, g.sub _ _ h1⟩
  · exact .inr ⟨T, ty_of g (.inl h) e, tyD_noRef e⟩
theorem od_eqO (hy : (∃ gs, y = .obj C gs) ∨ ∃ T, tyD y = some T) (hp : Pre W [.obj C fs, y]) (k2 : ∀ r, R [.obj C fs, y] r → (∃ b, r = .bl b) ∧ P r) (G H : Hp) (v w : V) (Q : VK) (g : Good W G H) (hv : Dr W.K G v (.obj C fs)) (hw : Dr W.K G w y)
    (k : ∀ u d G' H', Fr W G H G' H' → Good W G' H' → Dr W.K G' u d → P d → Q u H') : rEqO W.K C (spW W.K 2 Pre R) v w H Q := by
  have hty := tyN_of g hw hy
  have hv' := hv
  cases hv with
  | @obj a _ dx us _ h1 h2 h3 =>
    refine ⟨a, dx, us, rfl, g.sub _ _ h1, hty, rfl, W, _, G, rfl, g, .cons hv' (.cons hw .nil), hp, fun v d G' H' f g' r q => ?_⟩
    obtain ⟨⟨b, e⟩, p⟩ := k2 d q
    subst e
    cases r
    exact ⟨b, rfl, k _ _ G' H' f g' (.bl b) p⟩
theorem od_neO (hy : (∃ gs, y = .obj C gs) ∨ ∃ T, tyD y = some T) (hp : Pre W [.obj C fs, y]) (k2 : ∀ r, R [.obj C fs, y] r → ∃ b, r = .bl b ∧ P (.bl (!b))) (G H : Hp) (v w : V) (Q : VK) (g : Good W G H) (hv : Dr W.K G v (.obj C fs)) (hw : Dr W.K G w y)
    (k : ∀ u d G' H', Fr W G H G' H' → Good W G' H' → Dr W.K G' u d → P d → Q u H') : rNeO W.K C (spW W.K 2 Pre R) v w H Q := by
  have hty := tyN_of g hw hy
  have hv' := hv
  cases hv with
  | @obj a _ dx us _ h1 h2 h3 =>
    refine ⟨a, dx, us, rfl, g.sub _ _ h1, hty, rfl, W, _, G, rfl, g, .cons hv' (.cons hw .nil), hp, fun v d G' H' f g' r q => ?_⟩
    obtain ⟨b, e, p⟩ := k2 d q
    subst e
    cases r
    exact ⟨b, rfl, k _ _ G' H' f g' (.bl _) p⟩
theorem od_eqRf (hy : y = .non ∨ (∃ i, y = .int i) ∨ (∃ b, y = .bl b) ∨ (∃ z, y = .str z) ∨ ∃ ds, y = .tup ds) (hp : Pre W [.obj C fs, y]) (k2 : ∀ r, R [.obj C fs, y] r → (∃ b, r = .bl b) ∧ P r) (G H : Hp) (w v : V) (Q : VK) (g : Good W G H) (hw : Dr W.K G w y) (hv : Dr W.K G v (.obj C fs))
    (k : ∀ u d G' H', Fr W G H G' H' → Good W G' H' → Dr W.K G' u d → P d → Q u H') : rEqRf W.K C (spW W.K 2 Pre R) w v H Q := by
  have hv' := hv
  have hw' : w = .non ∨ (∃ i, w = .int i) ∨ (∃ b, w = .bl b) ∨ (∃ z, w = .str z) ∨ ∃ t xs, w = .ref t ∧ SqT W.K H t xs := by
    rcases hy with rfl | ⟨i, rfl⟩ | ⟨b, rfl⟩ | ⟨z, rfl⟩ | ⟨ds, rfl⟩
    · cases hw; exact .inl rfl
    · cases hw; exact .inr (.inl ⟨i, rfl⟩)
    · cases hw; exact .inr (.inr (.inl ⟨b, rfl⟩))
    · cases hw; exact .inr (.inr (.inr (.inl ⟨z, rfl⟩)))
    · cases hw with
      | tup h1 h2 => exact .inr (.inr (.inr (.inr ⟨_, _, rfl, sqT_mono g.sub h1⟩)))
  cases hv with
  | @obj a _ dx us _ h1 h2 h3 =>
    refine ⟨a, dx, us, rfl, g.sub _ _ h1, hw', rfl, W, _, G, rfl, g, .cons hv' (.cons hw .nil), hp, fun v d G' H' f g' r q => ?_⟩
    obtain ⟨⟨b, e⟩, p⟩ := k2 d q
    subst e
    cases r
    exact ⟨b, rfl, k _ _ G' H' f g' (.bl b) p⟩
theorem Dv.drO {G H : Hp} {v : V} (h : Dv W G H v (.obj C fs)) : Dr W.K G v (.obj C fs) := by
  rcases h with h | ⟨a, xs, ds, h1, h2, _⟩
  · exact h
  · cases h2
theorem ed_negO {Γ : Cn} {δ : List Sl} {ta : TE} (h : ED Γ ta δ fun d => ∃ fs, d = .obj C fs ∧ Pre Γ.W [.obj C fs] ∧ ∀ r, R [.obj C fs] r → P r) : ED Γ (tUn (rNegO C (spW Γ.W.K 1 Pre R)) ta) δ P := fun G H σ Q at_ k =>
  h G H σ _ at_ fun v d G1 H1 f1 g1 d1 ⟨fs, e, p, p2⟩ => by
    subst e
    have d1' := d1
    cases d1 with
    | @obj a _ dx us _ h1 h2 h3 =>
      exact ⟨a, dx, us, rfl, g1.sub _ _ h1, rfl, Γ.W, _, G1, rfl, g1, .cons d1' .nil, p, fun v d G' H' f g r q => k v d G' H' (f1.trans f g) g r (p2 d q)⟩
theorem cd_boolO (p : P (.bl true)) : CD W (rBoolO C) [.obj C fs] P := fun G H vs Q g hv k => by
  cases hv with
  | cons r rr =>
    cases rr
    cases r.drO with
    | @obj a _ dx us _ h1 h2 h3 => exact ⟨a, dx, us, rfl, g.sub _ _ h1, k _ _ G H (Fr.refl _ _ _) g (.bl true) p⟩
/-- isinstance(x, C), x of a built-in type -/
theorem cd_isiN {T : String} (kd : Po.Kd W.K C) (ht : tyD y = some T) (p : P (.bl false)) : CD W (rIsi W.K) [y, .raw (.ref C)] P := cd_of (fun G H vs Q g hv k => by
  obtain ⟨v, w, rfl, r, r2⟩ := dv2 hv
  cases r2.raw
  refine ⟨v, .ref C, .type T, .ref C, false, rfl, .own C, ty_of g r ht, ?_, k _ (.bl _)⟩
  unfold PySem.W.kitOne PySem.W.kitCls
  rw [if_neg (by simp)]
  simp only [kd.kc, if_true]
  exact (tyD_noRef ht).sub W.K C) p
/-- isinstance(x, C), x of the class at C -/
theorem cd_isiO (kd : Po.Kd W.K C) (p : P (.bl true)) : CD W (rIsi W.K) [.obj C fs, .raw (.ref C)] P := cd_of (fun G H vs Q g hv k => by
  obtain ⟨v, w, rfl, r, r2⟩ := dv2 hv
  cases r2.raw
  cases r.drO with
  | @obj a _ dx us _ h1 h2 h3 =>
    refine ⟨.ref a, .ref C, .ref C, .ref C, true, rfl, .own C, .base (.ins (g.sub _ _ h1) kd.cl kd.ha kd.hn kd.htk kd.hm), ?_, k _ (.bl _)⟩
    unfold PySem.W.kitOne
    rw [if_pos (by simp)]) p
end
end Pd

set_option Elab.async false
set_option linter.all false
set_option maxRecDepth 100000
set_option maxHeartbeats 2000000
namespace Pd
open PySem PySem.Spec PyProof.Rows L2
/-! ### own lists: xs[i] = v, ys.append(xs.pop(i)) -/
section
variable {Γ : Cn} {δ : List Sl} {te ti : TE} {D : De} {i j : Nat} {ds es : List Dt}
theorem sd_setM (hi : δ[i]? = some (.mu ds)) (h : ED Γ te δ fun d => ED Γ ti δ fun x => ∃ k : Nat, x = .int k ∧ k < ds.length ∧ D.nx (δ.set i (.mu (ds.set k d)))) : SD Γ (tAsg te (gSub (tVar i) ti rSetL)) δ D := fun G H σ E at_ hn hr hb hc =>
  h G H σ _ at_ fun v d G1 H1 f1 g1 d1 h2 => by
    have at1 := at_.step f1 g1
    obtain ⟨a, xs, h1, h2', h3, h4, h5, h6⟩ := at1.env.mu i ds hi
    refine ⟨.ref a, h1, h2 G1 H1 σ _ at1 fun w x G2 H2 f2 g2 d2 ⟨k, e, hk, p⟩ => ?_⟩
    subst e
    cases d2
    have kk := f2.o a _ h2' h3
    refine ⟨a, xs, k, k, rfl, rfl, kk.2 h5, Evl.ixN_nat (by rw [h6.length]; exact hk), ?_⟩
    exact hn _ G2 _ σ (f1.g.trans f2.g) ((at1.step f2 g2).store hi h1 ((h6.mono f2.g).set (d1.mono f2.g) k) (xs := xs)) p
theorem drall_erase {K : PySem.W.Frag} {G : Hp} : ∀ {xs : List V} {ds : List Dt} (k : Nat), DrAll K G xs ds → DrAll K G (xs.eraseIdx k) (ds.eraseIdx k)
  | _, _, _, .nil => .nil
  | _, _, 0, .cons _ t => t
  | _, _, k + 1, .cons r t => .cons r (drall_erase k t)
theorem seqIndex_nat {k n : Nat} (h : k < n) : seqIndex? (k : Int) n = some k := by
  unfold seqIndex?
  simp
  omega
theorem sd_appPop (hij : i ≠ j) (hi : δ[i]? = some (.mu es)) (hj : δ[j]? = some (.mu ds)) (hl : es.length < 100000) (h : ED Γ te δ fun x => ∃ (k : Nat) (d : Dt), x = .int k ∧ k < 100000 ∧ ds[k]? = some d ∧ D.nx ((δ.set j (.mu (ds.eraseIdx k))).set i (.mu (es ++ [d])))) :
    SD Γ (tDrop (tBM Γ.W.K "list" rAppend (tVar i) (tCons (tBM Γ.W.K "list" rPopAt (tVar j) (tCons te tNil)) tNil))) δ D := fun G H σ E at_ hn hr hb hc => by
  obtain ⟨a, xs, h1, h2, h3, h4, h5, h6⟩ := at_.env.mu i es hi
  obtain ⟨b, ys, k1, k2, k3, k4, k5, k6⟩ := at_.env.mu j ds hj
  have hab : a ≠ b := fun z => at_.env.sep i j a _ _ hij hi hj rfl rfl h1 (z ▸ k1)
  refine ⟨.ref a, h1, .inl ⟨rfl, xs, .inl (.inl h2)⟩, .ref b, k1, .inl ⟨rfl, ys, .inl (.inl k2)⟩, h G H σ _ at_ fun v x G1 H1 f1 g1 d1 ⟨k, d, e, hk, hd, p⟩ => ?_⟩
  subst e
  cases d1
  have ka := f1.o a _ h2 h3
  have kb := f1.o b _ k2 k3
  obtain ⟨y, hy, ry⟩ := k6.getD hd
  have hlt : k < ys.length := (List.getElem?_eq_some_iff.mp hy).1
  refine ⟨b, ys, k, k, y, rfl, rfl, kb.2 k5, by omega, by omega, seqIndex_nat hlt, hy, ?_⟩
  have at1 : At Γ (δ.set j (.mu (ds.eraseIdx k))) G1 (upd H1 b (.lst (ys.eraseIdx k))) σ := (at_.step f1 g1).store hj k1 (drall_erase k (k6.mono f1.g)) (xs := ys)
  have hi1 : (δ.set j (.mu (ds.eraseIdx k)))[i]? = some (.mu es) := by rw [set_get, if_neg hij.symm]; exact hi
  refine ⟨a, xs, y, rfl, rfl, ?_, ?_, ?_⟩
  · rw [upd_ne hab]
    exact ka.2 h5
  · rw [h6.length]
    exact Nat.lt_trans hl (by decide)
  · exact hn _ G1 _ σ f1.g (at1.store hi1 h1 ((h6.mono f1.g).append (.cons (ry.mono f1.g) .nil)) (xs := xs)) p
end
/-! ### the stock, by divmod -/
section
variable {Γ : Cn} {δ : List Sl} {te : TE} {P : Dt → Prop} {C : Nat → Int → Prop} {n i j l : Nat} {a : Addr} {z : Int} {D : De} {t : TA}
theorem stk_at {G H : Hp} {σ : L2.St} {x : Int} (at1 : At Γ δ G H σ) (hM : Γ.W.M = some a) (hJ : Γ.W.J = SJ C n) (hj : j < n) (cx : C j x) :
    ∃ ns : List Int, ns.length = n ∧ H a = some (.lst (ns.map V.int)) ∧ At Γ δ G (upd H a (.lst ((ns.map V.int).set j (.int x)))) σ := by
  obtain ⟨hg, o, ho, hJo⟩ := at1.gd.st a hM
  have hJo' := hJo
  rw [hJ] at hJo'
  obtain ⟨ns, hl, rfl, hC⟩ := hJo'
  refine ⟨ns, hl, ho, ?_⟩
  have es : (ns.map V.int).set j (.int x) = (ns.set j x).map V.int := by rw [List.map_set]
  rw [es]
  refine ⟨⟨at1.fr.g, fun b u e gb => ?_⟩, ⟨fun b u e => ?_, fun b e => ?_⟩, ?_⟩
  · obtain ⟨k1, k2⟩ := at1.fr.o b u e gb
    refine ⟨k1, fun hm => ?_⟩
    have hb : b ≠ a := fun q => hm (q ▸ hM)
    rw [upd_ne hb]
    exact k2 hm
  · have hb : b ≠ a := ne_of_none e hg
    rw [upd_ne hb]
    exact at1.gd.sub b u e
  · rw [hM] at e
    cases e
    refine ⟨hg, _, upd_same, ?_⟩
    rw [hJ]
    refine ⟨ns.set j x, by rw [List.length_set]; exact hl, rfl, fun i' y hy => ?_⟩
    rw [set_get] at hy
    by_cases q : j = i'
    · rw [if_pos q] at hy
      split at hy
      · cases hy
        exact q ▸ cx
      · cases hy
    · rw [if_neg q] at hy
      exact hC i' y hy
  · exact {
      len := at1.env.len
      dat := at1.env.dat
      mu := fun j' ds hj' => by
        obtain ⟨b, ys, k1, k2, k3, k4, k5, k6⟩ := at1.env.mu j' ds hj'
        have hb : b ≠ a := fun q => k5 (q ▸ hM)
        exact ⟨b, ys, k1, by rw [upd_ne hb]; exact k2, k3, k4, k5, k6⟩
      slf := fun j' Cc fds hj' => by
        obtain ⟨b, dx, ys, k1, k2, k3, k4, k5, k6, k7, k8, k9, k10⟩ := at1.env.slf j' Cc fds hj'
        have hb : b ≠ a := fun q => k8 (q ▸ hM)
        have hb2 : dx ≠ a := fun q => k9 (q ▸ hM)
        exact ⟨b, dx, ys, k1, by rw [upd_ne hb]; exact k2, by rw [upd_ne hb2]; exact k3, k4, k5, k6, k7, k8, k9, k10⟩
      sep := at1.env.sep }
theorem sd_stkDm (hd : δ[i]? = some (.dat (.raw (.ref a)))) (hM : Γ.W.M = some a) (hJ : Γ.W.J = SJ C n) (hz : z = (j : Int)) (hj : j < n)
    (h : RA Γ t δ fun ds => ∃ x y, ds = [.int x, .int y] ∧ CDivP x y ∧ C j (x / y) ∧ D.nx (δ.set l (.dat (.int (x % y))))) : SD Γ (tAsg (tCB rDm t) (gTup Γ.W.K 2 (gCons (gSub (tVar i) (tC (.int z)) rSetL) (gCons (gName l) gNil)))) δ D := fun G H σ E at_ hn hr hb hc =>
  h G H σ _ at_ fun vs ds G1 H1 f1 g1 r ⟨x, y, e, hc', cx, p⟩ => by
    subst e
    cases r with
    | cons r1 r2 =>
      cases r2 with
      | cons r2 r3 =>
        cases r3
        cases r1.int
        cases r2.int
        refine ⟨x, y, rfl, hc', fun q hq => ?_⟩
        have f2 := Fr.new (o := .tup [.int (x / y), .int (x % y)]) g1 hq
        have g2 := g1.new (o := .tup [.int (x / y), .int (x % y)]) hq
        have at2 := (at_.step f1 g1).step f2 g2
        obtain ⟨ns, hl, ho, at3⟩ := stk_at at2 hM hJ hj cx
        obtain ⟨w, h1, h2⟩ := at2.env.dat i _ hd
        cases h2
        refine ⟨q, _, rfl, .inl (.inl upd_same), rfl, _, _, rfl, .ref a, h1, a, ns.map V.int, z, j, rfl, rfl, ho, ?_, _, _, rfl, rfl, ?_⟩
        · rw [hz, List.length_map, hl]
          exact Evl.ixN_nat hj
        · exact hn _ _ _ _ (f1.g.trans f2.g) ⟨at3.fr, at3.gd, at3.env.set (.int _)⟩ p
end
/-! ### == and != where an object of the class at C may stand -/
structure KdE (K : PySem.W.Frag) (C : Addr) : Prop where
  kd : Po.Kd K C
  hN : PySem.W.mroIn K C (.type "NoneType") = some false
  hi : PySem.W.mroIn K C (.type "int") = some false
  hb : PySem.W.mroIn K C (.type "bool") = some false
  hs : PySem.W.mroIn K C (.type "str") = some false
def rEqC (K : PySem.W.Frag) (C : Addr) (sp : Sp) : R2 := fun x y H Q => rEqA K x y H Q ∨ (rEqO K C sp x y H Q ∨ rEqRf K C sp x y H Q)
def rNeC (K : PySem.W.Frag) (C : Addr) (sp : Sp) : R2 := fun x y H Q => rNeA K x y H Q ∨ rNeO K C sp x y H Q
section
variable {X : Cx} {j k : Nat} {C : Addr} {sp : Sp} {K : PySem.W.Frag}
theorem opEqC (hK : X.K = K) (kd : KdE X.K C) (c : ClM X.prog X.w X.K X.mg X.base k C "__eq__" sp) (hr : Room j X.A) (hk : k ≤ j) : OpR X (compareOp .Eq) (rEqC K C sp) := by
  subst hK
  exact (opEq hr.units).or ((opEqO c hr hk).or (opEqRf kd.kd kd.hN kd.hi kd.hb kd.hs c hr hk))
theorem opNeC (hK : X.K = K) (kd : KdE X.K C) (c : ClM X.prog X.w X.K X.mg X.base k C "__eq__" sp) (hr : Room j X.A) (hk : k + 1 ≤ j) : OpR X (compareOp .NotEq) (rNeC K C sp) := by
  subst hK
  exact (opNe hr.units).or (opNeO kd.kd c hr hk)
end
section
variable {W : Wo} {P : Dt → Prop} {C : Addr} {Pre : Wo → List Dt → Prop} {R : List Dt → Dt → Prop} {fs : List (Str × Dt)} {x y : Dt} {sp : Sp}
theorem od_eqC0 (h : OD W (rEqA W.K) x y P) : OD W (rEqC W.K C sp) x y P := fun G H v w Q g hv hw k => .inl (h G H v w Q g hv hw k)
theorem od_neC0 (h : OD W (rNeA W.K) x y P) : OD W (rNeC W.K C sp) x y P := fun G H v w Q g hv hw k => .inl (h G H v w Q g hv hw k)
theorem Dv.drN {G H : Hp} {v : V} {d : Dt} (h : Dv W G H v d) (hn : ∀ ds, d ≠ .lst ds) : Dr W.K G v d := by
  rcases h with h | ⟨a, xs, ds, h1, h2, _⟩
  · exact h
  · exact absurd h2 (hn ds)
theorem tyl {T : String} (h : tyD y = some T) (hT : T ≠ "list") : ∀ ds, y ≠ .lst ds := fun ds e => by
  subst e
  cases h
  exact hT rfl
/-- obj == obj -/
theorem od_eqCO {gs : List (Str × Dt)} (hp : Pre W [.obj C fs, .obj C gs]) (k2 : ∀ r, R [.obj C fs, .obj C gs] r → (∃ b, r = .bl b) ∧ P r) : OD W (rEqC W.K C (spW W.K 2 Pre R)) (.obj C fs) (.obj C gs) P := fun G H v w Q g hv hw k =>
  .inr (.inl (od_eqO (.inl ⟨gs, rfl⟩) hp k2 G H v w Q g hv.drO hw.drO k))
/-- obj == a value of a built-in type -/
theorem od_eqCB {T : String} (hy : tyD y = some T) (hT : T ≠ "list") (hp : Pre W [.obj C fs, y]) (k2 : ∀ r, R [.obj C fs, y] r → (∃ b, r = .bl b) ∧ P r) : OD W (rEqC W.K C (spW W.K 2 Pre R)) (.obj C fs) y P := fun G H v w Q g hv hw k =>
  .inr (.inl (od_eqO (.inr ⟨T, hy⟩) hp k2 G H v w Q g hv.drO (hw.drN (tyl hy hT)) k))
/-- a value of a built-in type == obj -/
theorem od_eqCR (hy : y = .non ∨ (∃ i, y = .int i) ∨ (∃ b, y = .bl b) ∨ (∃ z, y = .str z) ∨ ∃ ds, y = .tup ds) (hp : Pre W [.obj C fs, y]) (k2 : ∀ r, R [.obj C fs, y] r → (∃ b, r = .bl b) ∧ P r) : OD W (rEqC W.K C (spW W.K 2 Pre R)) y (.obj C fs) P := fun G H w v Q g hw hv k =>
  .inr (.inr (od_eqRf hy hp k2 G H w v Q g (hw.drN (by rintro ds rfl; rcases hy with z | ⟨_, z⟩ | ⟨_, z⟩ | ⟨_, z⟩ | ⟨_, z⟩ <;> cases z)) hv.drO k))
theorem od_neCO {gs : List (Str × Dt)} (hp : Pre W [.obj C fs, .obj C gs]) (k2 : ∀ r, R [.obj C fs, .obj C gs] r → ∃ b, r = .bl b ∧ P (.bl (!b))) : OD W (rNeC W.K C (spW W.K 2 Pre R)) (.obj C fs) (.obj C gs) P := fun G H v w Q g hv hw k =>
  .inr (od_neO (.inl ⟨gs, rfl⟩) hp k2 G H v w Q g hv.drO hw.drO k)
end
end Pd
namespace Pd
open PySem PySem.Spec PyProof.Rows L2
theorem pe_fldK {X : Cx} {K : PySem.W.Frag} {e : Expr} {f : Str} {pos : Pos} {ta : TE} (hK : X.K = K) (he : PE X e ta) (hb : attributeBase e f X.env (eval e X.env) = eval e X.env) : PE X (.Attribute e f pos) (tFld K ta f) := hK ▸ pe_fld he hb
theorem ps_fldK {X : Cx} {K : PySem.W.Frag} {o value : Expr} {f : Str} {pos pos' : Pos} {ta tv : TE} (hK : X.K = K) (ha : PE X o ta) (hv : PE X value tv) (hs : swapsWith value (some (.Attribute o f pos')) pos.line X.env = pure false) : PS X (.Assign [.Attribute o f pos'] value pos) (sFld K ta tv f) := hK ▸ ps_fld ha hv hs
theorem ed_isN {Γ : Cn} {δ : List Sl} {ta : TE} {P : Dt → Prop} (h : ED Γ ta δ fun d => (∀ v, d ≠ .raw v) ∧ P (.bl (match d with | .non => true | _ => false))) : ED Γ (tIsN ta) δ P := fun G H σ Q at_ k =>
  h G H σ _ at_ fun v d G1 H1 f1 g1 d1 ⟨hr, p⟩ => by
    cases d1 with
    | non => exact k _ _ G1 H1 f1 g1 (.bl true) p
    | bl b => exact k _ _ G1 H1 f1 g1 (.bl false) p
    | int b => exact k _ _ G1 H1 f1 g1 (.bl false) p
    | str b => exact k _ _ G1 H1 f1 g1 (.bl false) p
    | tup _ _ => exact k _ _ G1 H1 f1 g1 (.bl false) p
    | lst _ _ => exact k _ _ G1 H1 f1 g1 (.bl false) p
    | scr _ => exact k _ _ G1 H1 f1 g1 (.bl false) p
    | dct _ => exact k _ _ G1 H1 f1 g1 (.bl false) p
    | raw v => exact absurd rfl (hr v)
    | obj _ _ _ => exact k _ _ G1 H1 f1 g1 (.bl false) p
end Pd
namespace Pd
open PySem PySem.Spec PyProof.Rows L2
theorem body_ofN2 {K : PySem.W.Frag} {n : Nat} {Pre : Wo → List Dt → Prop} {R : List Dt → List Dt → Prop} {N : List Str} {t1 t2 : TS} {te : TE} {vs : List V} {H : Hp} {Q : VK} {E : XK}
    (h : ∀ (Γ : Cn) ds, Γ.W.K = K → ds.length = n → Pre Γ.W ds → SD Γ (tSeq t1 t2) (slots N.length ds) { nx := fun δ' => NL Γ te δ' (R ds), rt := fun _ => False }) (hs : spN K n Pre R vs H Q E) : tSeq t1 (tSeq t2 (tRet te)) { nx := fun _ H' => Q .non H', rt := Q } (L2.start N vs) H :=
  body_ofN (t1 := tSeq t1 t2) h hs
end Pd
namespace Pd
open PySem PySem.Spec PyProof.Rows L2
/-- x = [] -/
theorem sd_asgNil {Γ : Cn} {δ : List Sl} {i : Nat} {D : De} (h : D.nx (δ.set i (.mu []))) : SD Γ (tAsg (tLst tNil) (gName i)) δ D := sd_asgV (vd_nl (nl_lst (ad_nil ⟨by decide, h⟩)))
end Pd

set_option Elab.async false
set_option linter.all false
set_option maxRecDepth 100000
set_option maxHeartbeats 2000000
/-! plain facts about sorting -/
namespace Pd
open PySem PySem.Spec PyProof.Rows L2
theorem perm_sorted {α : Type} {le : α → α → Bool} (anti : ∀ a b, le a b = true → le b a = true → a = b) : ∀ {l m : List α}, l.Pairwise (fun a b => le a b = true) → m.Pairwise (fun a b => le a b = true) → l.Perm m → l = m
  | [], m, _, _, h => h.symm.eq_nil.symm
  | x :: l, [], _, _, h => absurd h.length_eq (by simp)
  | x :: l, y :: m, hl, hm, h => by
    have hx := List.pairwise_cons.mp hl
    have hy := List.pairwise_cons.mp hm
    have e : x = y := by
      rcases List.mem_cons.mp (h.mem_iff.mp List.mem_cons_self) with e | h1
      · exact e
      · rcases List.mem_cons.mp (h.mem_iff.mpr List.mem_cons_self) with e | h2
        · exact e.symm
        · exact anti x y (hx.1 y h2) (hy.1 x h1)
    subst e
    rw [perm_sorted anti hx.2 hy.2 h.cons_inv]
abbrev srt {β : Type} (enc : β → PyData) (l : List β) : List β := l.mergeSort (PySem.W.dataLe false enc)
theorem srt_pairwise {β : Type} (enc : β → PyData) (l : List β) : (srt enc l).Pairwise (fun a b => PySem.W.dataLe false enc a b = true) := PySem.W.sort_pairwise (PySem.W.sortLe_total _ _ _) l
theorem srt_perm {β : Type} (enc : β → PyData) (l : List β) : (srt enc l).Perm l := List.mergeSort_perm _ _
theorem le_anti {β : Type} {enc : β → PyData} (inj : ∀ a b, PySem.W.keyToks (enc a) = PySem.W.keyToks (enc b) → a = b) (a b : β) (h1 : PySem.W.dataLe false enc a b = true) (h2 : PySem.W.dataLe false enc b a = true) : a = b := by
  have h1' : (!PyProof.Rows.lexLt itemOrd (PySem.W.keyToks (enc b)) (PySem.W.keyToks (enc a))) = true := h1
  have h2' : (!PyProof.Rows.lexLt itemOrd (PySem.W.keyToks (enc a)) (PySem.W.keyToks (enc b))) = true := h2
  rw [Bool.not_eq_true'] at h1' h2'
  exact inj a b ((listOrd itemOrd).total _ _ h2' h1')
/-- sorting depends on what is in the list alone -/
theorem srt_eq {β : Type} {enc : β → PyData} (inj : ∀ a b, PySem.W.keyToks (enc a) = PySem.W.keyToks (enc b) → a = b) {l m : List β} (h : l.Perm m) : srt enc l = srt enc m :=
  perm_sorted (le_anti inj) (srt_pairwise enc l) (srt_pairwise enc m) (((srt_perm enc l).trans h).trans (srt_perm enc m).symm)
end Pd
namespace Pd
open PySem PySem.Spec PyProof.Rows L2
theorem cut_to {α : Type} (xs : List α) (k : Nat) (x : Int) (hx : x = (k : Int)) : cutD xs none (some x) = xs.take k := by
  subst hx
  unfold cutD
  rw [HT.sIx_none, HT.sIx_nat, List.drop_zero, Nat.sub_zero, List.take_eq_take_iff]
  omega
theorem cut_from {α : Type} (xs : List α) (k : Nat) (x : Int) (hx : x = (k : Int)) : cutD xs (some x) none = xs.drop k := by
  subst hx
  unfold cutD
  rw [HT.sIx_none, HT.sIx_nat]
  rcases Nat.lt_or_ge k xs.length with h | h
  · rw [Nat.min_eq_left (Nat.le_of_lt h), List.take_of_length_le (by rw [List.length_drop]; omega)]
  · rw [Nat.min_eq_right h, List.drop_of_length_le (Nat.le_refl _), List.drop_of_length_le h, List.take_nil]
end Pd
namespace Pd
open PySem PySem.Spec PyProof.Rows L2
theorem TD.imp {Γ : Cn} {δ : List Sl} {t : TT} {P P' : Bool → Prop} (h : TD Γ t δ P) (k : ∀ b, P b → P' b) : TD Γ t δ P' := fun G H σ Q at_ q => h G H σ Q at_ fun b G' H' f g p => q b G' H' f g (k b p)
/-- if t: (return ..); what follows is shown once, by what a false t tells -/
theorem sd_guard {Γ : Cn} {δ : List Sl} {D : De} {t : TT} {ts tu : TS} (Φ : Prop) (h : TD Γ t δ fun b => (b = true → SD Γ ts δ { D with nx := fun δ' => SD Γ tu δ' D }) ∧ (b = false → Φ)) (h2 : Φ → SD Γ tu δ D) : SD Γ (tSeq (tIfS t ts tNext) tu) δ D :=
  sd_seq (sd_if (h.imp fun b ⟨p1, p2⟩ => ⟨p1, fun e => sd_next (h2 (p2 e))⟩))
end Pd
namespace Pd
open PySem PySem.Spec PyProof.Rows L2
theorem shown_bound {d : PyData} (hc : d.canLay0 = true) (hi : d.intsShort 200 = true) (hw : d.weight ≤ 40000) : d.shown.length ≤ 10000000 := by
  have h := PyData.shown_le 200 (by decide) d (PyData.leavesShort_of_canLay0 200 d hc hi)
  have : (200 + 2) * d.weight ≤ 202 * 40000 := Nat.mul_le_mul (by decide) hw
  omega
end Pd
namespace Pd
open PySem PySem.Spec PyProof.Rows L2
theorem cd_lstT {W : Wo} {P : Dt → Prop} {ds : List Dt} (p : P (.lst ds)) : CD W (rLstOf W.K) [.tup ds] P := fun G H vs Q g hv k => by
  cases hv with
  | cons r rr =>
    cases rr
    obtain ⟨a, us, rfl, hH, r1⟩ := r.tup
    exact ⟨a, us, rfl, .inr (sqT_mono g.sub hH), fun q hq => k _ _ (upd G q (.lst us)) _ (Fr.new g hq) (g.new hq) (.lst upd_same (r1.mono (same_new (g.gn hq)))) p⟩
theorem cd_lstL {W : Wo} {P : Dt → Prop} {ds : List Dt} (p : P (.lst ds)) : CD W (rLstOf W.K) [.lst ds] P := fun G H vs Q g hv k => by
  cases hv with
  | cons r rr =>
    cases rr
    obtain ⟨a, us, rfl, hH, r1⟩ := r.lst g
    exact ⟨a, us, rfl, .inl (SqL.of hH), fun q hq => k _ _ (upd G q (.lst us)) _ (Fr.new g hq) (g.new hq) (.lst upd_same (r1.mono (same_new (g.gn hq)))) p⟩
end Pd

set_option Elab.async false
set_option linter.all false
set_option maxRecDepth 100000
set_option maxHeartbeats 2000000
namespace Po
open PySem PySem.Spec PyProof.Rows
section
variable {prog : Program} {w : World} {A : Around} {E : Value → Shared → Prop} {s : Shared} {K : PySem.W.Frag} {x C f : Addr} {ox : Obj} {od : Option Obj}
/-- what x.__ne__(b) gives by object.__ne__ and the class's own __eq__ -/
theorem try_ne {b : Value} {Q : Value → Shared → Prop} (hu : A.units + 1 < cLine) (X : K.In s.heap) (I : PySem.W.InstAt s.heap x ox C od) (k : Kd K C) (hs : PySem.W.findIn K (.ref C) "__eq__" = some (some (.ref f))) (hf : PySem.W.isFn K (.ref f) = true)
    (h : wpAny (model prog w) A.in1 (call (.ref f) [.ref x, b]) (fun v s' => ∃ r, v = .bool r ∧ Q (.bool (!r)) s') E s) : wpAny (model prog w) A (tryCompare (.ref x) "__ne__" b) (fun r s' => ∃ v, r = some v ∧ Q v s') E s := by
  unfold tryCompare
  refine wpAny_bind ?_
  simp only [callSpecialIfBound?, bindSpecialIfBound?]
  refine wpAny_holding (wpAny_bind (wpAny_bind (wpAny_bind (I.type.here ((PySem.W.looks_findIn X k.ne).here ?_)))))
  refine wpAny_bind (wpAny_askSetting (wpAny_ite ?_))
  have fin : wpAny (model prog w) A (call (.builtin "object.__ne__") ([.ref x] ++ [b]) >>= fun v => pure (some v)) (fun a s₁ => wpAny (model prog w) A (match a with | some .notImplemented | none => pure none | some v => pure (some v)) (fun r s' => ∃ v, r = some v ∧ Q v s') E s₁) E s := by
    refine wpAny_bind (wpAny_call (codeAny_call_builtin F.cmp_object.ne.plain F.cmpEntry_ne (PySem.W.check_slot F.cmpKind_ne F.cmpSplit_ne (I.type.andThen (PySem.W.looks_mroIn X k.hm)) (F.cmpArgs_ne _ _) ?_)))
    unfold Builtin.«object.__ne__»
    refine wpAny_bind (m := slotArgs "__ne__" 1 _) (wpAny_pure ?_)
    refine wpAny_bind (m := cRoomFor _ _) (wpAny_cRoomFor hu ?_)
    refine wpAny_bind (m := callSpecialIfBound? (.ref x) (Str.ofString "__eq__") _) (PySem.W.ifBound_K X I hs hf (wpAny_mono h (fun r s' hr => ?_) fun _ _ y => y))
    obtain ⟨r, rfl, hq⟩ := hr
    refine wpAny_bind (m := truthy (.bool r)) (wpAny_truthy_bool ?_)
    exact wpAny_pure (wpAny_pure (wpAny_pure ⟨_, rfl, hq⟩))
  split
  · exact wpAny_bind (wpAny_of_eq (F.cmp_object.ne.bind _) (wpAny_pure (by exact fin)))
  · exact wpAny_tryCatch (wpAny_bind (wpAny_of_eq (F.cmp_object.ne.bind _) (wpAny_pure (by exact fin))))
/-- b != x, b of a built-in type that declines -/
theorem rc_reflN {b : Value} {T : String} {Q : Value → Shared → Prop} (hu : A.units + 1 < cLine) (X : K.In s.heap) (I : PySem.W.InstAt s.heap x ox C od) (hm : PySem.W.mroIn K C (.type T) = some false) (hT : s.TypeIs b T)
    (hone : oneThing? .NotEq b (.ref x) = none) (hdec : wpAny (model prog w) A (tryCompare b "__ne__" (.ref x)) (fun r s' => r = none ∧ s' = s) E s) (k : Kd K C)
    (hs : PySem.W.findIn K (.ref C) "__eq__" = some (some (.ref f))) (hf : PySem.W.isFn K (.ref f) = true)
    (h : wpAny (model prog w) A.in1 (call (.ref f) [.ref x, b]) (fun v s' => ∃ r, v = .bool r ∧ Q (.bool (!r)) s') E s) : wpAny (model prog w) A (richCompare .NotEq b (.ref x)) Q E s := by
  have one := try_ne (Q := Q) hu X I k hs hf h
  simp only [richCompare, cmpInfo_NotEq, hone]
  refine wpAny_holding (wpAny_bind (wpAny_cRoomFor (Nat.lt_of_succ_lt hu) ?_))
  refine wpAny_bind (wpAny_typeOf hT ?_)
  refine wpAny_bind (I.type.here ?_)
  rw [show (Value.type T != Value.ref C) = true from by simp]
  simp only [if_true]
  refine wpAny_bind ((PySem.W.looks_mroIn X hm).here ?_)
  simp only [Bool.false_eq_true, if_false, Bool.not_false, if_true]
  refine wpAny_bind (m := tryCompare b _ (.ref x)) (wpAny_mono hdec (fun r s1 z => ?_) fun _ _ e => e)
  obtain ⟨z1, z2⟩ := z
  subst z1
  subst z2
  refine wpAny_bind (m := tryCompare (.ref x) _ b) (wpAny_mono one (fun r s2 z => ?_) fun _ _ e => e)
  obtain ⟨v, rfl, hq⟩ := z
  exact wpAny_pure hq
theorem none_ne_dec (l : Addr) : Gives (Builtin.«NoneType.__ne__» ⟨[.none, .ref l], []⟩) (.val (Value.notImplemented)) :=
  .of_wp fun M A E s Q h => by obtain ⟨hp, g, d, tk, os⟩ := s; wp_walk; exact ⟨_, rfl, h⟩
theorem int_ne_dec (i : Int) (t : Tok) (x dx C : Addr) : Meets (Builtin.«int.__ne__» ⟨[.int i t, .ref x], []⟩) (fun _ R s => s.heap.get? x = some (PySem.W.instObj C dx) ∧ R (.ok (.ret .notImplemented)) s) :=
  .of_wp fun prog w A R s h => by obtain ⟨hp, g, d, tk, os⟩ := s; obtain ⟨hl, h⟩ := h; wp_walk using wpAny_load hl; exact ⟨_, rfl, h⟩
theorem bool_ne_dec (i : Bool) (x dx C : Addr) : Meets (Builtin.«int.__ne__» ⟨[.bool i, .ref x], []⟩) (fun _ R s => s.heap.get? x = some (PySem.W.instObj C dx) ∧ R (.ok (.ret .notImplemented)) s) :=
  .of_wp fun prog w A R s h => by obtain ⟨hp, g, d, tk, os⟩ := s; obtain ⟨hl, h⟩ := h; wp_walk using wpAny_load hl; exact ⟨_, rfl, h⟩
theorem str_ne_dec (i : Str) (t : Tok) (x dx C : Addr) : Meets (Builtin.«str.__ne__» ⟨[.str i t, .ref x], []⟩) (fun _ R s => s.heap.get? x = some (PySem.W.instObj C dx) ∧ R (.ok (.ret .notImplemented)) s) :=
  .of_wp fun prog w A R s h => by obtain ⟨hp, g, d, tk, os⟩ := s; obtain ⟨hl, h⟩ := h; wp_walk using wpAny_load hl; exact ⟨_, rfl, h⟩
theorem decN_none : wpAny (model prog w) A (tryCompare .none "__ne__" (.ref x)) (fun r s' => r = none ∧ s' = s) E s :=
  wpAny_tryCompare_declines (show s.TypeIs .none "NoneType" from rfl) F.slot_NoneType_ne_refl (call_gives F.slot_NoneType_ne_refl rfl F.entry_NoneType_ne (F.args_NoneType_ne_2 _ _) (none_ne_dec x) ⟨rfl, rfl, rfl⟩)
theorem decN_int {i : Int} {t : Tok} {dx : Addr} (hx : s.heap.get? x = some (PySem.W.instObj C dx)) : wpAny (model prog w) A (tryCompare (.int i t) "__ne__" (.ref x)) (fun r s' => r = none ∧ s' = s) E s :=
  wpAny_tryCompare_declines (typeIs_int s i t) F.slot_int_ne_refl (call_meets F.slot_int_ne_refl (typeIs_int s i t) F.entry_int_ne (F.args_int_ne_2 _ _) (int_ne_dec i t x dx C) ⟨hx, rfl, rfl, rfl⟩)
theorem decN_bool {i : Bool} {dx : Addr} (hx : s.heap.get? x = some (PySem.W.instObj C dx)) : wpAny (model prog w) A (tryCompare (.bool i) "__ne__" (.ref x)) (fun r s' => r = none ∧ s' = s) E s :=
  wpAny_tryCompare_declines (show s.TypeIs (.bool i) "bool" from rfl) F.slot_bool_ne_refl (call_meets F.slot_bool_ne_refl (show s.TypeIs (.bool i) "bool" from rfl) F.entry_int_ne (F.args_int_ne_2 _ _) (bool_ne_dec i x dx C) ⟨hx, rfl, rfl, rfl⟩)
theorem decN_str {i : Str} {t : Tok} {dx : Addr} (hx : s.heap.get? x = some (PySem.W.instObj C dx)) : wpAny (model prog w) A (tryCompare (.str i t) "__ne__" (.ref x)) (fun r s' => r = none ∧ s' = s) E s :=
  wpAny_tryCompare_declines (typeIs_str s i t) F.slot_str_ne_refl (call_meets F.slot_str_ne_refl (typeIs_str s i t) F.entry_str_ne (F.args_str_ne_2 _ _) (str_ne_dec i t x dx C) ⟨hx, rfl, rfl, rfl⟩)
open Builtin in
theorem decN_tuple {l : Addr} (hl : s.TypeIs (.ref l) "tuple") (X : K.In s.heap) (I : PySem.W.InstAt s.heap x ox C od) (hm : PySem.W.mroIn K C (.type "tuple") = some false) : wpAny (model prog w) A (tryCompare (.ref l) "__ne__" (.ref x)) (fun r s' => r = none ∧ s' = s) E s := by
  refine wpAny_tryCompare_declines hl F.slot_tuple_ne_refl (GQ.call_here F.slot_tuple_ne_refl hl F.entry_tuple_ne (F.args_tuple_ne_2 _ _) ?_)
  have hi : ∀ {A' : Around} {E' : Value → Shared → Prop} {Q' : Bool → Shared → Prop}, Q' false s → wpAny (model prog w) A' (isInstance (.ref x) (.type "tuple")) Q' E' s := fun q => (show PySem.W.Looks (model prog w) s.heap (isInstance (.ref x) (.type "tuple")) false from I.type.andThen (PySem.W.looks_mroIn X hm)).here q
  unfold Builtin.«tuple.__ne__»
  show wpAny _ _ (slotArgs "__ne__" 1 _ >>= _) _ _ s
  refine wpAny_bind (m := slotArgs "__ne__" 1 _) (wpAny_pure ?_)
  refine wpAny_bind (m := isInstance (.ref x) (.type "tuple")) (hi ?_)
  rw [if_pos (show (!false) = true from rfl)]
  exact wpAny_pure ⟨rfl, rfl, rfl⟩
end
end Po

set_option Elab.async false
set_option linter.all false
set_option maxRecDepth 100000
set_option maxHeartbeats 2000000
namespace Pd
open PySem PySem.Spec PyProof.Rows L2
section
variable {X : Cx} {j k : Nat} {C : Addr} {sp : Sp} {K : PySem.W.Frag}
/-- a def of the class runs one step further in -/
theorem run_in1 {pins : List (Addr × Obj)} {σ : L2.St} {H : Hp} {s : Shared} {f : Addr} {fd : FuncData} {ps : List Str} {us : List Value} {vs : List V} {Q : VK} (F : FnOk X.prog X.w X.K X.mg X.base L2.CX0 k f fd ps sp) (hb : Binds X.K fd ps []) (hr : Room (k + 1) X.A) (I : Inv X pins σ H s) (r : Vals vs us) (q : sp vs H Q L2.E0)
    {R : Value → Shared → Prop} (h : ∀ v s', EP X pins σ Q v s' → R v s') : wpAny (model X.prog X.w) X.A.in1 (call (.ref f) us) R X.xe s := by
  have hln := F.len _ _ _ _ q
  have bb := hb s us I.kIn (by rw [List.append_nil, ← r.length]; exact hln)
  rw [List.append_nil] at bb
  refine wpAny_call (codeAny_mono (F.run X.A.in1 X.stack s H ⟨us, []⟩ us vs Q L2.E0 hr.in1 I.env0.in1 bb r q) fun rr s' hq => ?_)
  match rr, hq with
  | .error _, hq => exact False.elim hq
  | .ok .next, hq => exact False.elim hq
  | .ok .brk, hq => exact False.elim hq
  | .ok .cont, hq => exact False.elim hq
  | .ok (.ret w), hq => exact h _ _ (I.after hq)
/-- b != x -/
def rNeRf (K : PySem.W.Frag) (C : Addr) (sp : Sp) : R2 := fun y x H Q => ∃ a dx fs, x = .ref a ∧ H a = some (.ins C dx fs) ∧ (y = .non ∨ (∃ i, y = .int i) ∨ (∃ b, y = .bl b) ∨ (∃ z, y = .str z) ∨ ∃ t xs, y = .ref t ∧ SqT K H t xs) ∧ sp [x, y] H (fun v H' => ∃ b, v = .bl b ∧ Q (.bl (!b)) H') L2.E0
theorem opNeRf (kd : KdE X.K C) (c : ClM X.prog X.w X.K X.mg X.base k C "__eq__" sp) (hr : Room j X.A) (hk : k + 1 ≤ j) : OpR X (compareOp .NotEq) (rNeRf X.K C sp) := by
  intro pins s σ H y x u v Q I ry rx h
  obtain ⟨a, dx, fs, rfl, ha, hy, q⟩ := h
  obtain rfl : v = Value.ref a := rx
  obtain ⟨f, fd, ps, F, hm, hb⟩ := c.ex
  obtain ⟨mA, J0, _⟩ := ins_get I.hok ha
  obtain ⟨od, J, _⟩ := J0.look
  have hun := hr.units
  have fin : wpAny (model X.prog X.w) X.A.in1 (call (.ref f) [.ref a, u]) (fun v s' => ∃ r, v = .bool r ∧ EP X pins σ Q (.bool (!r)) s') X.xe s := by
    refine run_in1 (us := [.ref a, u]) (vs := [.ref a, y]) F hb (hr.mono hk) I (.cons rfl (.cons ry .nil)) q fun z s1 ⟨zv, H1, I1, rz, b, e, q1⟩ => ?_
    subst e
    cases rz
    exact ⟨b, rfl, .bl (!b), H1, I1, rfl, q1⟩
  show wpAny _ _ (richCompare .NotEq u (.ref a)) _ _ _
  rcases hy with rfl | ⟨i, rfl⟩ | ⟨i, rfl⟩ | ⟨i, rfl⟩ | ⟨t, xs, rfl, ht⟩
  · cases ry
    exact Po.rc_reflN (by omega) I.kIn J kd.hN (show s.TypeIs .none "NoneType" from rfl) rfl Po.decN_none kd.kd hm.at_ hm.fn fin
  · obtain ⟨tk, rfl⟩ := ry
    exact Po.rc_reflN (by omega) I.kIn J kd.hi (typeIs_int s i tk) rfl (Po.decN_int J.at_) kd.kd hm.at_ hm.fn fin
  · cases ry
    exact Po.rc_reflN (by omega) I.kIn J kd.hb (show s.TypeIs (.bool i) "bool" from rfl) rfl (Po.decN_bool J.at_) kd.kd hm.at_ hm.fn fin
  · obtain ⟨tk, rfl⟩ := ry
    exact Po.rc_reflN (by omega) I.kIn J kd.hs (typeIs_str s i tk) rfl (Po.decN_str J.at_) kd.kd hm.at_ hm.fn fin
  · cases ry
    obtain ⟨its, rv, p, hz⟩ := I.tuple ht
    exact Po.rc_reflN (by omega) I.kIn J kd.kd.hmt p.typeIs rfl (Po.decN_tuple p.typeIs I.kIn J kd.kd.hmt) kd.kd hm.at_ hm.fn fin
def rNeC2 (K : PySem.W.Frag) (C : Addr) (sp : Sp) : R2 := fun x y H Q => rNeC K C sp x y H Q ∨ rNeRf K C sp x y H Q
theorem opNeC2 (hK : X.K = K) (kd : KdE X.K C) (c : ClM X.prog X.w X.K X.mg X.base k C "__eq__" sp) (hr : Room j X.A) (hk : k + 1 ≤ j) : OpR X (compareOp .NotEq) (rNeC2 K C sp) := by
  subst hK
  exact (opNeC rfl kd c hr hk).or (opNeRf kd c hr hk)
/-! ### len(x), repr(x), bool(x) by the class's own defs -/
def rLenO (C : Addr) (sp : Sp) : List V → Hp → VK → Prop := fun xs H Q => ∃ a dx fs, xs = [.ref a] ∧ H a = some (.ins C dx fs) ∧ sp [.ref a] H (fun v H' => ∃ n : Nat, v = .int n ∧ n ≤ 100000 ∧ Q v H') L2.E0
theorem callLenO (c : ClM X.prog X.w X.K X.mg X.base k C "__len__" sp) (hr : Room j X.A) (hk : k + 1 ≤ j) : CallR X (.builtin "len") (rLenO C sp) := by
  intro pins s σ H xs us Q I r h
  obtain ⟨a, dx, fs, rfl, ha, q⟩ := h
  obtain ⟨u, rfl, ru⟩ := vals1 r
  obtain rfl : u = Value.ref a := ru
  obtain ⟨f, fd, ps, F, hm, hb⟩ := c.ex
  obtain ⟨mA, J, _⟩ := ins_get I.hok ha
  obtain ⟨od, J, _⟩ := J.look
  obtain ⟨m, hF⟩ := I.fr
  refine PySem.W.len_K hF I.ok.mod.kin J hm.at_ hm.fn ?_
  refine run_in1 (us := [.ref a]) (vs := [.ref a]) F hb (hr.mono hk) I (.cons rfl .nil) q fun z s1 ⟨zv, H1, I1, rz, n, e, hn, q1⟩ => ?_
  subst e
  obtain ⟨t, rfl⟩ := rz
  exact ⟨⟨by omega, by omega⟩, .int n, H1, I1.tok _, ⟨_, rfl⟩, q1⟩
def rReprO (C : Addr) (sp : Sp) : List V → Hp → VK → Prop := fun xs H Q => ∃ a dx fs, xs = [.ref a] ∧ H a = some (.ins C dx fs) ∧ sp [.ref a] H (fun v H' => ∃ z : Str, v = .str z ∧ Q v H') L2.E0
theorem callReprO (c : ClM X.prog X.w X.K X.mg X.base k C "__repr__" sp) (hr : Room j X.A) (hk : k + 1 ≤ j) : CallR X (.builtin "repr") (rReprO C sp) := by
  intro pins s σ H xs us Q I r h
  obtain ⟨a, dx, fs, rfl, ha, q⟩ := h
  obtain ⟨u, rfl, ru⟩ := vals1 r
  obtain rfl : u = Value.ref a := ru
  obtain ⟨f, fd, ps, F, hm, hb⟩ := c.ex
  obtain ⟨mA, J, _⟩ := ins_get I.hok ha
  obtain ⟨od, J, _⟩ := J.look
  obtain ⟨m, hF⟩ := I.fr
  have hun := hr.units
  refine PySem.W.repr_K (by show X.A.units + 1 < cLine; omega) hF I.ok.mod.kin J hm.at_ hm.fn ?_
  refine run_in1 (us := [.ref a]) (vs := [.ref a]) F hb (hr.mono hk) I (.cons rfl .nil) q fun z s1 ⟨zv, H1, I1, rz, y, e, q1⟩ => ?_
  subst e
  obtain ⟨t, rfl⟩ := rz
  exact ⟨.str y, H1, I1, ⟨_, rfl⟩, q1⟩
end
end Pd

set_option Elab.async false
set_option linter.all false
set_option maxRecDepth 100000
set_option maxHeartbeats 2000000
/-! The mirror: a def's run as a function of what its names hold (data, or lists and dicts of its own), and what it is for such a function to tell the truth. -/
namespace Qm
open PySem PySem.Spec PyProof.Rows L2 Pd

abbrev W0 (K : PySem.W.Frag) : Wo := ⟨K, none, fun _ => True⟩
theorem good0 {K : PySem.W.Frag} {G H : Hp} (h : Same G H) : Good (W0 K) G H := ⟨h, fun a e => by cases e⟩
/-- what a name holds: a datum; a list, a dict of its own; self in its __init__ -/
inductive Sv where
  | un
  | dat (d : Dt)
  | lst (ds : List Dt)
  | dic (kvs : List (Key × Dt))
  | ins (C : Addr) (fs : List (Str × Dt))
structure Xc where
  C : Addr
  fs : List (Str × Dt)
inductive Res (α : Type) where
  | ok (a : α) (δ : List Sv)
  | exc (x : Xc) (δ : List Sv)
  | bad
abbrev M (α : Type) := List Sv → Res α
def Res.bnd {α β : Type} (r : Res α) (f : α → List Sv → Res β) : Res β :=
  match r with
  | .ok a δ => f a δ
  | .exc x δ => .exc x δ
  | .bad => .bad
@[simp] theorem bnd_ok {α β : Type} {a : α} {δ : List Sv} {f : α → List Sv → Res β} : (Res.ok a δ).bnd f = f a δ := rfl
@[simp] theorem bnd_exc {α β : Type} {x : Xc} {δ : List Sv} {f : α → List Sv → Res β} : (Res.exc x δ).bnd f = .exc x δ := rfl
@[simp] theorem bnd_bad {α β : Type} {f : α → List Sv → Res β} : (Res.bad : Res α).bnd f = .bad := rfl
def opt {α : Type} (o : Option α) (δ : List Sv) : Res α :=
  match o with
  | some a => .ok a δ
  | none => .bad
@[simp] theorem opt_some {α : Type} {a : α} {δ : List Sv} : opt (some a) δ = .ok a δ := rfl
@[simp] theorem opt_none {α : Type} {δ : List Sv} : opt (none : Option α) δ = .bad := rfl

inductive DrKv (K : PySem.W.Frag) (G : Hp) : List (Key × V) → List (Key × Dt) → Prop
  | nil : DrKv K G [] []
  | cons {k : Key} {v : V} {d : Dt} {ks : List (Key × V)} {ds : List (Key × Dt)} : Dr K G v d → DrKv K G ks ds → DrKv K G ((k, v) :: ks) ((k, d) :: ds)
theorem DrKv.mono {K : PySem.W.Frag} {G G' : Hp} (e : Same G G') : ∀ {ks : List (Key × V)} {ds : List (Key × Dt)}, DrKv K G ks ds → DrKv K G' ks ds
  | _, _, .nil => .nil
  | _, _, .cons h t => .cons (h.mono e) (DrKv.mono e t)

/-- fp: the objects that stand behind it -/
def Own (K : PySem.W.Frag) (G H : Hp) (o : Option V) (fp : List Addr) : Sv → Prop
  | .un => fp = []
  | .dat d => fp = [] ∧ ∃ v, o = some v ∧ Dr K G v d
  | .lst ds => ∃ a xs, o = some (.ref a) ∧ fp = [a] ∧ H a = some (.lst xs) ∧ DrAll K G xs ds
  | .dic kvs => ∃ a ks, o = some (.ref a) ∧ fp = [a] ∧ H a = some (.dK ks) ∧ DrKv K G ks kvs
  | .ins C fds => ∃ a dx fs, o = some (.ref a) ∧ fp = [a, dx] ∧ a ≠ dx ∧ H a = some (.ins C dx fs) ∧ H dx = some (.own a) ∧ DrFs K G fs fds
section
variable {K : PySem.W.Frag} {G H G' H' : Hp} {o : Option V} {fp : List Addr} {s : Sv}
theorem Own.live (h : Own K G H o fp s) {b : Addr} (hb : b ∈ fp) : H b ≠ none := by
  cases s with
  | un => rw [show fp = [] from h] at hb; cases hb
  | dat d => rw [h.1] at hb; cases hb
  | lst ds =>
    obtain ⟨a, xs, h1, rfl, h3, h4⟩ := h
    rw [List.mem_singleton] at hb
    subst hb; rw [h3]; exact Option.some_ne_none _
  | dic ds =>
    obtain ⟨a, xs, h1, rfl, h3, h4⟩ := h
    rw [List.mem_singleton] at hb
    subst hb; rw [h3]; exact Option.some_ne_none _
  | ins C fds =>
    obtain ⟨a, dx, fs, h1, rfl, _, h3, h4, h5⟩ := h
    rw [List.mem_cons, List.mem_singleton] at hb
    rcases hb with rfl | rfl
    · rw [h3]; exact Option.some_ne_none _
    · rw [h4]; exact Option.some_ne_none _
theorem Own.mono (h : Own K G H o fp s) (e : Same G G') (hh : ∀ b ∈ fp, H' b = H b) : Own K G' H' o fp s := by
  cases s with
  | un => exact h
  | dat d => exact ⟨h.1, let ⟨v, h1, h2⟩ := h.2; ⟨v, h1, h2.mono e⟩⟩
  | lst ds =>
    obtain ⟨a, xs, h1, rfl, h3, h4⟩ := h
    exact ⟨a, xs, h1, rfl, (hh a (by simp)).trans h3, h4.mono e⟩
  | dic ds =>
    obtain ⟨a, xs, h1, rfl, h3, h4⟩ := h
    exact ⟨a, xs, h1, rfl, (hh a (by simp)).trans h3, h4.mono e⟩
  | ins C fds =>
    obtain ⟨a, dx, fs, h1, rfl, hn, h3, h4, h5⟩ := h
    exact ⟨a, dx, fs, h1, rfl, hn, (hh a (by simp)).trans h3, (hh dx (by simp)).trans h4, h5.mono e⟩
end

/-- a def's run: what stood at its entry (G0 never changes, M: the objects that it was handed to change), what is wanted of an exception, the slots that keep their objects -/
structure Fm where
  G0 : Hp
  H0 : Hp
  M : Addr → Prop
structure Cn where
  K : PySem.W.Frag
  Wx : WX
  ps : List Nat
  pv : Nat → V
  n : Nat
  hps : ∀ i ∈ ps, i < n
structure At (Γ : Cn) (F : Fm) (δ : List Sv) (G H : Hp) (σ : L2.St) : Prop where
  sub : Same G H
  g0 : Same F.G0 G
  fr : ∀ b u, F.H0 b = some u → F.G0 b = none → ¬ F.M b → G b = none ∧ H b = some u
  live : ∀ b, F.H0 b ≠ none → H b ≠ none
  len : σ.length = δ.length
  nl : Γ.n ≤ δ.length
  pin : ∀ i ∈ Γ.ps, σ[i]? = some (some (Γ.pv i))
  own : ∃ fp : Nat → List Addr, (∀ i s, δ[i]? = some s → Own Γ.K G H σ[i]?.join (fp i) s) ∧ (∀ i, δ.length ≤ i → fp i = []) ∧ (∀ i j b, b ∈ fp i → b ∈ fp j → i = j) ∧
    ∀ i b, b ∈ fp i → G b = none ∧ (F.H0 b = none ∨ F.M b)

section
variable {Γ : Cn} {F : Fm} {δ : List Sv} {G H G' H' : Hp} {σ : L2.St}
theorem fr_live {K : PySem.W.Frag} (f : Fr (W0 K) G H G' H') (s' : Same G' H') {b : Addr} (h : H b ≠ none) : H' b ≠ none := by
  cases q : H b with
  | none => exact absurd q h
  | some u =>
    cases q2 : G b with
    | none =>
      rw [(f.o b u q q2).2 (fun z => by cases z)]
      exact Option.some_ne_none _
    | some u2 =>
      rw [s' b u2 (f.g b u2 q2)]
      exact Option.some_ne_none _
theorem At.step (a : At Γ F δ G H σ) (f : Fr (W0 Γ.K) G H G' H') (s' : Same G' H') : At Γ F δ G' H' σ := by
  obtain ⟨fp, h1, h2, h3, h4⟩ := a.own
  refine ⟨s', a.g0.trans f.g, fun b u e g m => ?_, fun b h => fr_live f s' (a.live b h), a.len, a.nl, a.pin, fp, fun i s hs => ?_, h2, h3, fun i b hb => ?_⟩
  · obtain ⟨k1, k2⟩ := a.fr b u e g m
    have := f.o b u k2 k1
    exact ⟨this.1, this.2 fun z => by cases z⟩
  · refine (h1 i s hs).mono f.g fun b hb => ?_
    obtain ⟨k1, _⟩ := h4 i b hb
    cases q : H b with
    | none => exact absurd q ((h1 i s hs).live hb)
    | some u => rw [(f.o b u q k1).2 fun z => by cases z]
  · obtain ⟨k1, k2⟩ := h4 i b hb
    refine ⟨?_, k2⟩
    have hl : i < δ.length := by
      apply Classical.byContradiction
      intro z
      rw [h2 i (by omega)] at hb
      cases hb
    cases q : H b with
    | none => exact absurd q ((h1 i _ (List.getElem?_eq_getElem hl)).live hb)
    | some u => exact (f.o b u q k1).1
theorem At.h0 (a : At Γ F δ G H σ) {p : Addr} (h : H p = none) : F.H0 p = none := by
  cases q : F.H0 p with
  | none => rfl
  | some u => exact absurd h (a.live p (by rw [q]; exact Option.some_ne_none _))
theorem At.dat (a : At Γ F δ G H σ) {i : Nat} {d : Dt} (h : δ[i]? = some (.dat d)) : ∃ v, σ[i]? = some (some v) ∧ Dr Γ.K G v d := by
  obtain ⟨fp, h1, _⟩ := a.own
  obtain ⟨_, v, h2, h3⟩ := h1 i _ h
  refine ⟨v, ?_, h3⟩
  cases q : σ[i]? with
  | none => rw [q] at h2; cases h2
  | some z => rw [q] at h2; rw [show z = some v from h2]
theorem At.lst (a : At Γ F δ G H σ) {i : Nat} {ds : List Dt} (h : δ[i]? = some (.lst ds)) : ∃ b xs, σ[i]? = some (some (.ref b)) ∧ H b = some (.lst xs) ∧ G b = none ∧ DrAll Γ.K G xs ds := by
  obtain ⟨fp, h1, _, _, h4⟩ := a.own
  obtain ⟨b, xs, h2, h5, h3, h6⟩ := h1 i _ h
  refine ⟨b, xs, ?_, h3, (h4 i b (by rw [h5]; simp)).1, h6⟩
  cases q : σ[i]? with
  | none => rw [q] at h2; cases h2
  | some z => rw [q] at h2; rw [show z = some (.ref b) from h2]
/-- one more value at the end -/
theorem get_app {α : Type} {l : List α} {x : α} {i : Nat} : (l ++ [x])[i]? = if i < l.length then l[i]? else if i = l.length then some x else none := by
  rw [List.getElem?_append]
  split
  · rfl
  · split
    · subst_vars; simp
    · rw [List.getElem?_eq_none]
      simp only [List.length_cons, List.length_nil]
      omega
theorem At.push (a : At Γ F δ G H σ) {v : V} {s : Sv} {f0 : List Addr} (ho : Own Γ.K G H (some v) f0 s) (hd : ∀ b ∈ f0, G b = none ∧ (F.H0 b = none ∨ F.M b)) (hn : ∀ fp : Nat → List Addr, (∀ i s, δ[i]? = some s → Own Γ.K G H σ[i]?.join (fp i) s) → ∀ i, i < δ.length → ∀ b ∈ f0, b ∉ fp i) :
    At Γ F (δ ++ [s]) G H (σ ++ [some v]) := by
  obtain ⟨fp, h1, h2, h3, h4⟩ := a.own
  have hn := hn fp h1
  refine ⟨a.sub, a.g0, a.fr, a.live, by simp [a.len], Nat.le_trans a.nl (by simp), fun i hi => ?_, fun i => if i = δ.length then f0 else fp i, fun i t ht => ?_, fun i hi => ?_, fun i j b hi hj => ?_, fun i b hb => ?_⟩
  · have := a.pin i hi
    rw [List.getElem?_append_left (List.getElem?_eq_some_iff.mp this).1]
    exact this
  · rw [get_app] at ht
    by_cases q : i < δ.length
    · rw [if_pos q] at ht
      simp only [if_neg (show ¬ i = δ.length by omega)]
      rw [List.getElem?_append_left (by rw [a.len]; exact q)]
      exact h1 i t ht
    · rw [if_neg q] at ht
      by_cases q2 : i = δ.length
      · rw [if_pos q2] at ht
        cases ht
        rw [get_app, a.len, if_neg q, if_pos q2]
        simp only [if_pos q2]
        exact ho
      · rw [if_neg q2] at ht
        cases ht
  · rw [List.length_append, List.length_singleton] at hi
    simp only [if_neg (show ¬ i = δ.length by omega)]
    exact h2 i (by omega)
  · simp only at hi hj
    by_cases q : i = δ.length
    · rw [if_pos q] at hi
      by_cases q2 : j = δ.length
      · omega
      · rw [if_neg q2] at hj
        have hjl : j < δ.length := by
          apply Classical.byContradiction
          intro z
          rw [h2 j (by omega)] at hj
          cases hj
        exact absurd hj (hn j hjl b hi)
    · rw [if_neg q] at hi
      by_cases q2 : j = δ.length
      · rw [if_pos q2] at hj
        have hil : i < δ.length := by
          apply Classical.byContradiction
          intro z
          rw [h2 i (by omega)] at hi
          cases hi
        exact absurd hi (hn i hil b hj)
      · rw [if_neg q2] at hj
        exact h3 i j b hi hj
  · simp only at hb
    by_cases q : i = δ.length
    · rw [if_pos q] at hb
      exact hd b hb
    · rw [if_neg q] at hb
      exact h4 i b hb
theorem At.pushD (a : At Γ F δ G H σ) {v : V} {d : Dt} (r : Dr Γ.K G v d) : At Γ F (δ ++ [.dat d]) G H (σ ++ [some v]) :=
  a.push (f0 := []) ⟨rfl, v, rfl, r⟩ (fun b hb => nomatch hb) (fun _ _ _ _ b hb => nomatch hb)
/-- the state with a new object that is not yet in any hand -/
theorem At.newO (a : At Γ F δ G H σ) {p : Addr} {o : HO} (hp : H p = none) : At Γ F δ G (upd H p o) σ :=
  a.step (Fr.newM (good0 a.sub) hp) ((good0 (K := Γ.K) a.sub).setM ((good0 (K := Γ.K) a.sub).gn hp) (fun z => by cases z)).sub
theorem At.free (a : At Γ F δ G H σ) {p : Addr} (hp : H p = none) : G p = none := (good0 (K := Γ.K) a.sub).gn hp
theorem At.pushL (a : At Γ F δ G H σ) {p : Addr} {xs : List V} {ds : List Dt} (hp : H p = none) (r : DrAll Γ.K G xs ds) : At Γ F (δ ++ [.lst ds]) G (upd H p (.lst xs)) (σ ++ [some (.ref p)]) := by
  refine (a.newO hp).push (f0 := [p]) ⟨p, xs, rfl, rfl, upd_same, r⟩ (fun b hb => ?_) (fun fp h1 i hi b hb hb2 => ?_)
  · rw [List.mem_singleton] at hb
    subst hb
    exact ⟨a.free hp, .inl (a.h0 hp)⟩
  · rw [List.mem_singleton] at hb
    subst hb
    obtain ⟨fp0, k1, k2, k3, k4⟩ := a.own
    have z := h1 i _ (List.getElem?_eq_getElem hi)
    have z0 := k1 i _ (List.getElem?_eq_getElem hi)
    cases q : δ[i] with
    | un => rw [q] at z; rw [show fp i = [] from z] at hb2; cases hb2
    | dat d => rw [q] at z; rw [z.1] at hb2; cases hb2
    | lst ds' =>
      rw [q] at z z0
      obtain ⟨a1, _, e1, e2, _⟩ := z
      obtain ⟨a2, _, e3, e4, e5, _⟩ := z0
      rw [e1] at e3
      cases e3
      rw [e2, List.mem_singleton] at hb2
      subst hb2
      rw [hp] at e5
      cases e5
    | dic ds' =>
      rw [q] at z z0
      obtain ⟨a1, _, e1, e2, _⟩ := z
      obtain ⟨a2, _, e3, e4, e5, _⟩ := z0
      rw [e1] at e3
      cases e3
      rw [e2, List.mem_singleton] at hb2
      subst hb2
      rw [hp] at e5
      cases e5
    | ins C fds =>
      rw [q] at z z0
      obtain ⟨a1, dx1, _, e1, e2, _, e7, _⟩ := z
      obtain ⟨a2, dx2, _, e3, e4, _, e5, e6, _⟩ := z0
      rw [e1] at e3
      cases e3
      have h7 : upd H b (.lst xs) a1 = H a1 := upd_ne (fun z => by subst z; rw [hp] at e5; cases e5)
      rw [h7, e5] at e7
      cases e7
      rw [e2, List.mem_cons, List.mem_singleton] at hb2
      rcases hb2 with rfl | rfl
      · rw [hp] at e5; cases e5
      · rw [hp] at e6; cases e6
theorem At.pop {s : Sv} {o : Option V} (a : At Γ F (δ ++ [s]) G H (σ ++ [o])) (hn : Γ.n ≤ δ.length) : At Γ F δ G H σ := by
  have hl : ∀ i ∈ Γ.ps, i < δ.length := fun i hi => Nat.lt_of_lt_of_le (Γ.hps i hi) hn
  obtain ⟨fp, h1, h2, h3, h4⟩ := a.own
  have len : σ.length = δ.length := by simpa using a.len
  refine ⟨a.sub, a.g0, a.fr, a.live, len, hn, fun i hi => ?_, fun i => if i < δ.length then fp i else [], fun i t ht => ?_, fun i hi => if_neg (by omega), fun i j b hi hj => ?_, fun i b hb => ?_⟩
  · have := a.pin i hi
    rw [List.getElem?_append_left (by rw [len]; exact hl i hi)] at this
    exact this
  · have hil := (List.getElem?_eq_some_iff.mp ht).1
    have := h1 i t (by rw [List.getElem?_append_left hil]; exact ht)
    rw [List.getElem?_append_left (by rw [len]; exact hil)] at this
    simp only [if_pos hil]
    exact this
  · simp only at hi hj
    split at hi
    · split at hj
      · exact h3 i j b hi hj
      · cases hj
    · cases hi
  · simp only at hb
    split at hb
    · exact h4 i b hb
    · cases hb
/-- the value at the end goes to the name i -/
theorem At.move {s : Sv} {o : Option V} (a : At Γ F (δ ++ [s]) G H (σ ++ [o])) {i : Nat} (hp : i ∉ Γ.ps) (hn : Γ.n ≤ δ.length) : At Γ F (δ.set i s) G H (σ.set i o) := by
  have hl : ∀ i ∈ Γ.ps, i < δ.length := fun i hi => Nat.lt_of_lt_of_le (Γ.hps i hi) hn
  have len : σ.length = δ.length := by simpa using a.len
  by_cases hi : i < δ.length
  · obtain ⟨fp, h1, h2, h3, h4⟩ := a.own
    refine ⟨a.sub, a.g0, a.fr, a.live, by rw [List.length_set, List.length_set]; exact len, by rw [List.length_set]; exact hn, fun j hj => ?_, fun j => if j = i then fp δ.length else if j < δ.length then fp j else [], fun j t ht => ?_, fun j hj => ?_, fun j k b hj hk => ?_, fun j b hb => ?_⟩
    · have := a.pin j hj
      rw [List.getElem?_append_left (by rw [len]; exact hl j hj)] at this
      rw [set_get, if_neg (fun z : i = j => hp (z ▸ hj))]
      exact this
    · rw [set_get] at ht
      by_cases q : i = j
      · subst q
        rw [if_pos rfl, if_pos hi] at ht
        cases ht
        have := h1 δ.length s (by rw [get_app, if_neg (by omega), if_pos rfl])
        rw [get_app, len, if_neg (by omega), if_pos rfl] at this
        rw [set_get, if_pos rfl, if_pos (by rw [len]; exact hi)]
        simp only [if_pos]
        exact this
      · rw [if_neg q] at ht
        have hjl := (List.getElem?_eq_some_iff.mp ht).1
        have := h1 j t (by rw [List.getElem?_append_left hjl]; exact ht)
        rw [List.getElem?_append_left (by rw [len]; exact hjl)] at this
        rw [set_get, if_neg q]
        simp only [if_neg (fun z : j = i => q z.symm), if_pos hjl]
        exact this
    · rw [List.length_set] at hj
      simp only [if_neg (show ¬ j = i by omega), if_neg (show ¬ j < δ.length by omega)]
    · have red : ∀ j, b ∈ (if j = i then fp δ.length else if j < δ.length then fp j else []) → ∃ j', b ∈ fp j' ∧ ((j = i ∧ j' = δ.length) ∨ (j ≠ i ∧ j' = j ∧ j < δ.length)) := by
        intro j hj
        by_cases q : j = i
        · rw [if_pos q] at hj; exact ⟨_, hj, .inl ⟨q, rfl⟩⟩
        · rw [if_neg q] at hj
          split at hj
          · rename_i q2
            exact ⟨_, hj, .inr ⟨q, rfl, q2⟩⟩
          · cases hj
      obtain ⟨j', e1, e2⟩ := red j hj
      obtain ⟨k', e3, e4⟩ := red k hk
      have := h3 j' k' b e1 e3
      omega
    · simp only at hb
      by_cases q : j = i
      · rw [if_pos q] at hb; exact h4 _ b hb
      · rw [if_neg q] at hb
        split at hb
        · exact h4 j b hb
        · cases hb
  · rw [List.set_eq_of_length_le (by omega), List.set_eq_of_length_le (by omega)]
    exact a.pop hn
theorem At.datSet (a : At Γ F δ G H σ) {i : Nat} {v : V} {d : Dt} (r : Dr Γ.K G v d) (hp : i ∉ Γ.ps) : At Γ F (δ.set i (.dat d)) G H (σ.set i (some v)) := (a.pushD r).move hp a.nl
def fpOf (b : Addr) : Sv → List Addr
  | .dat _ => []
  | _ => [b]
/-- the content of slot i changes in place -/
theorem At.put (a : At Γ F δ G H σ) {i : Nat} {b : Addr} {s s' : Sv} {o o' : HO} {G' : Hp} (hs : δ[i]? = some s) (hb : σ[i]? = some (some (.ref b))) (hown : ∀ fp, Own Γ.K G H (some (.ref b)) fp s → fp = [b] ∧ H b = some o)
    (hG : G' = G ∨ (G' = upd G b o' ∧ ∃ d, s' = .dat d)) (hn : Own Γ.K G' (upd H b o') (some (.ref b)) (fpOf b s') s') : At Γ F (δ.set i s') G' (upd H b o') σ := by
  obtain ⟨fp, h1, h2, h3, h4⟩ := a.own
  have hil := (List.getElem?_eq_some_iff.mp hs).1
  obtain ⟨hf, hHb⟩ := hown (fp i) (by have := h1 i s hs; rw [hb] at this; exact this)
  obtain ⟨gb, m0⟩ := h4 i b (by rw [hf]; simp)
  have sG : Same G G' := by
    rcases hG with rfl | ⟨rfl, _⟩
    · exact Same.refl _
    · exact same_new gb
  have other : ∀ c, c ≠ b → G' c = G c := fun c hc => by
    rcases hG with rfl | ⟨rfl, _⟩
    · rfl
    · rw [upd_ne hc]
  refine ⟨?_, a.g0.trans sG, fun c u e g m => ?_, fun c h => ?_, by rw [List.length_set]; exact a.len, by rw [List.length_set]; exact a.nl, a.pin, fun j => if j = i then (fpOf b s') else fp j, fun j t ht => ?_, fun j hj => ?_, fun j k c hj hk => ?_, fun j c hc => ?_⟩
  · intro c u e
    by_cases q : c = b
    · subst q
      rcases hG with rfl | ⟨rfl, _⟩
      · rw [gb] at e; cases e
      · rw [upd_same] at e ⊢; exact e
    · rw [other c q] at e
      rw [upd_ne q]
      exact a.sub c u e
  · have q : c ≠ b := fun z => by
      subst z
      rcases m0 with m0 | m0
      · rw [m0] at e; cases e
      · exact m m0
    rw [other c q, upd_ne q]
    exact a.fr c u e g m
  · by_cases q : c = b
    · subst q; rw [upd_same]; exact Option.some_ne_none _
    · rw [upd_ne q]; exact a.live c h
  · rw [set_get] at ht
    by_cases q : i = j
    · subst q
      rw [if_pos rfl, if_pos hil] at ht
      cases ht
      simp only [if_pos]
      rw [hb]
      exact hn
    · rw [if_neg q] at ht
      simp only [if_neg (fun z : j = i => q z.symm)]
      refine (h1 j t ht).mono sG fun c hc => upd_ne fun z => ?_
      subst z
      exact q (h3 i j c (by rw [hf]; simp) hc)
  · rw [List.length_set] at hj
    simp only [if_neg (show ¬ j = i by omega)]
    exact h2 j hj
  · have red : ∀ j, c ∈ (if j = i then (fpOf b s') else fp j) → c ∈ fp j := by
      intro j hj
      by_cases q : j = i
      · rw [if_pos q] at hj
        rw [q, hf]
        unfold fpOf at hj
        split at hj
        · cases hj
        · exact hj
      · rw [if_neg q] at hj; exact hj
    exact h3 j k c (red j hj) (red k hk)
  · simp only at hc
    by_cases q : j = i
    · rw [if_pos q] at hc
      unfold fpOf at hc
      split at hc
      · cases hc
      · rename_i hnd
        rw [List.mem_singleton] at hc
        subst hc
        refine ⟨?_, m0⟩
        rcases hG with rfl | ⟨rfl, d, hd⟩
        · exact gb
        · exact absurd hd (hnd d)
    · rw [if_neg q] at hc
      have qc : c ≠ b := fun z => by
        subst z
        exact q (h3 j i c hc (by rw [hf]; simp))
      rw [other c qc]
      exact h4 j c hc
theorem own_lst {K : PySem.W.Frag} {b : Addr} {xs : List V} {ds : List Dt} (hx : H b = some (.lst xs)) : ∀ fp, Own K G H (some (.ref b)) fp (.lst ds) → fp = [b] ∧ H b = some (.lst xs) := fun fp h => by
  obtain ⟨a, ys, h1, h2, h3, h4⟩ := h
  cases h1
  exact ⟨h2, hx⟩
/-- an own list gets another content -/
theorem At.putL (a : At Γ F δ G H σ) {i : Nat} {b : Addr} {ds ds' : List Dt} {xs xs' : List V} (hs : δ[i]? = some (.lst ds)) (hb : σ[i]? = some (some (.ref b))) (hx : H b = some (.lst xs)) (r : DrAll Γ.K G xs' ds') :
    At Γ F (δ.set i (.lst ds')) G (upd H b (.lst xs')) σ :=
  a.put (s' := .lst ds') hs hb (own_lst hx) (.inl rfl) ⟨b, xs', rfl, rfl, upd_same, r⟩
theorem upd_id {b : Addr} {o : HO} (h : H b = some o) : upd H b o = H := by
  funext c
  unfold upd
  split
  · subst_vars; exact h.symm
  · rfl
/-- an own list changes no more -/
theorem At.freeze (a : At Γ F δ G H σ) {i : Nat} {ds : List Dt} (hs : δ[i]? = some (.lst ds)) : ∃ G', Same G G' ∧ At Γ F (δ.set i (.dat (.lst ds))) G' H σ := by
  obtain ⟨b, xs, h1, h2, h3, h4⟩ := a.lst hs
  refine ⟨upd G b (.lst xs), same_new h3, ?_⟩
  have := a.put (s' := .dat (.lst ds)) (o' := .lst xs) (G' := upd G b (.lst xs)) hs h1 (own_lst h2) (.inr ⟨rfl, _, rfl⟩) ⟨rfl, .ref b, rfl, .lst upd_same (h4.mono (same_new h3))⟩
  rw [upd_id h2] at this
  exact this
/-- the frame begun anew: all that is in no hand stays -/
theorem At.root (a : At Γ F δ G H σ) : ∃ M : Addr → Prop, At Γ ⟨G, H, M⟩ δ G H σ ∧ (∀ b, M b → H b ≠ none ∧ G b = none ∧ (F.H0 b = none ∨ F.M b)) ∧ ∀ D u, H D = some u → (∀ (i : Nat) s fp, δ[i]? = some s → Own Γ.K G H σ[i]?.join fp s → D ∉ fp) → ¬ M D := by
  obtain ⟨fp, h1, h2, h3, h4⟩ := a.own
  have lt : ∀ i b, b ∈ fp i → i < δ.length := fun i b hb => by
    apply Classical.byContradiction
    intro z
    rw [h2 i (by omega)] at hb
    cases hb
  refine ⟨fun b => ∃ i, b ∈ fp i, ⟨a.sub, Same.refl G, fun b u e g m => ⟨g, e⟩, fun b h => h, a.len, a.nl, a.pin, fp, h1, h2, h3, fun i b hb => ⟨(h4 i b hb).1, .inr ⟨i, hb⟩⟩⟩, fun b ⟨i, hb⟩ => ?_, fun D u hD hn ⟨i, hb⟩ => ?_⟩
  · exact ⟨(h1 i _ (List.getElem?_eq_getElem (lt i b hb))).live hb, h4 i b hb⟩
  · exact hn i _ (fp i) (List.getElem?_eq_getElem (lt i D hb)) (h1 i _ (List.getElem?_eq_getElem (lt i D hb))) hb
theorem At.rebase {δ' : List Sv} {σ' : L2.St} {M : Addr → Prop} (a : At Γ F δ G H σ) (hM : ∀ b, M b → H b ≠ none ∧ G b = none ∧ (F.H0 b = none ∨ F.M b)) (a' : At Γ ⟨G, H, M⟩ δ' G' H' σ') : At Γ F δ' G' H' σ' := by
  obtain ⟨fp, h1, h2, h3, h4⟩ := a'.own
  refine ⟨a'.sub, a.g0.trans a'.g0, fun b u e g m => ?_, fun b h => a'.live b (a.live b h), a'.len, a'.nl, a'.pin, fp, h1, h2, h3, fun i b hb => ?_⟩
  · obtain ⟨k1, k2⟩ := a.fr b u e g m
    refine a'.fr b u k2 k1 fun z => ?_
    rcases (hM b z).2.2 with q | q
    · rw [q] at e; cases e
    · exact m q
  · obtain ⟨k1, k2⟩ := h4 i b hb
    refine ⟨k1, ?_⟩
    rcases k2 with k2 | k2
    · exact .inl (a.h0 k2)
    · exact (hM b k2).2.2
end
end Qm

set_option Elab.async false
set_option linter.all false
set_option maxRecDepth 100000
set_option maxHeartbeats 2000000
namespace Qm
open PySem PySem.Spec PyProof.Rows L2 Pd

def IsX (K : PySem.W.Frag) (G H : Hp) (c : Value) (e : Option Addr) (x : Xc) : Prop := c = .ref x.C ∧ ∃ dx fs, e = some dx ∧ G dx = none ∧ H dx = some (.xd fs) ∧ DrFs K G fs x.fs
def OkR {α : Type} (Γ : Cn) (F : Fm) (G : Hp) (r : Res α) (k : α → List Sv → Hp → Prop) : Prop :=
  match r with
  | .ok a δ' => ∀ G', Same G G' → k a δ' G'
  | .exc x δ' => ∀ c e σ' G' H', Same G G' → At Γ F δ' G' H' σ' → IsX Γ.K G' H' c e x → Γ.Wx c e σ' H'
  | .bad => False
section
variable {α β : Type} {Γ : Cn} {F : Fm} {G G' : Hp} {r : Res α} {k k' : α → List Sv → Hp → Prop}
theorem OkR.mono (h : OkR Γ F G r k) (s : Same G G') : OkR Γ F G' r k := by
  cases r with
  | ok a δ => exact fun G2 s2 => h G2 (s.trans s2)
  | exc x δ => exact fun c e σ' G2 H' s2 => h c e σ' G2 H' (s.trans s2)
  | bad => exact h
theorem OkR.imp (h : OkR Γ F G r k) (f : ∀ a δ' G', Same G G' → k a δ' G' → k' a δ' G') : OkR Γ F G r k' := by
  cases r with
  | ok a δ => exact fun G2 s2 => f a δ G2 s2 (h G2 s2)
  | exc x δ => exact h
  | bad => exact h
theorem OkR.bnd {f : α → List Sv → Res β} {k : β → List Sv → Hp → Prop} (h : OkR Γ F G (r.bnd f) k) : OkR Γ F G r fun a δ' G' => OkR Γ F G' (f a δ') k := by
  cases r with
  | ok a δ => exact fun G2 s2 => OkR.mono h s2
  | exc x δ => exact h
  | bad => exact h
theorem OkR.opt {o : Option α} {δ : List Sv} (h : OkR Γ F G (opt o δ) k) : ∃ a, o = some a ∧ ∀ G', Same G G' → k a δ G' := by
  cases o with
  | none => exact h.elim
  | some a => exact ⟨a, rfl, h⟩
end

/-! ### the judgements -/
def SoE (Γ : Cn) (te : TE) (m : M Dt) : Prop := ∀ F δ G H σ (Q : VK), At Γ F δ G H σ → OkR Γ F G (m δ) (fun d δ' G' => ∀ v H', At Γ F δ' G' H' σ → Dr Γ.K G' v d → Q v H') → te σ H Q
/-- an expression whose value is an object of its own (or a datum) -/
def SoV (Γ : Cn) (te : TE) (m : M Sv) : Prop := ∀ F δ G H σ (Q : VK), At Γ F δ G H σ → OkR Γ F G (m δ) (fun s δ' G' => ∀ v H', At Γ F (δ' ++ [s]) G' H' (σ ++ [some v]) → Q v H') → te σ H Q
def SoT (Γ : Cn) (tt : TT) (m : M Bool) : Prop := ∀ F δ G H σ (Q : Bool → Hp → Prop), At Γ F δ G H σ → OkR Γ F G (m δ) (fun b δ' G' => ∀ H', At Γ F δ' G' H' σ → Q b H') → tt σ H Q
/-- the arguments of a call of data -/
def SoD (Γ : Cn) (ta : TA) (m : M (List Dt)) : Prop := ∀ F δ G H σ (Q : List V → Hp → Prop), At Γ F δ G H σ → OkR Γ F G (m δ) (fun ds δ' G' => ∀ vs H', At Γ F δ' G' H' σ → DrAll Γ.K G' vs ds → Q vs H') → ta σ H Q
inductive Fl where
  | nx
  | bk
  | ct
  | rt (s : Sv)
def EndOk (Γ : Cn) (F : Fm) (D : Ends) (fl : Fl) (δ' : List Sv) (G' : Hp) : Prop :=
  match fl with
  | .nx => ∀ σ' H', At Γ F δ' G' H' σ' → D.nx σ' H'
  | .bk => ∀ σ' H', At Γ F δ' G' H' σ' → D.bk σ' H'
  | .ct => ∀ σ' H', At Γ F δ' G' H' σ' → D.ct σ' H'
  | .rt s => ∀ v σ' H', Γ.n ≤ δ'.length → At Γ F (δ' ++ [s]) G' H' (σ' ++ [some v]) → D.rt v H'
def SoS (Γ : Cn) (ts : TS) (m : M Fl) : Prop := ∀ F δ G H σ D, At Γ F δ G H σ → OkR Γ F G (m δ) (EndOk Γ F D) → ts D σ H

class Lk (X : Cx) (Γ : Cn) : Prop where
  k : X.K = Γ.K
  calm : X.calm = true
  un : X.A.units + 65 < cLine
def PM (X : Cx) (Γ : Cn) (e : Expr) (m : M Dt) : Prop := ∃ te, PE X e te ∧ SoE Γ te m
def PV (X : Cx) (Γ : Cn) (e : Expr) (m : M Sv) : Prop := ∃ te, PE X e te ∧ SoV Γ te m
def PB (X : Cx) (Γ : Cn) (e : Expr) (m : M Bool) : Prop := ∃ tt, PT X e tt ∧ SoT Γ tt m
def PBw (X : Cx) (Γ : Cn) (e : Expr) (m : M Bool) : Prop := ∃ tt, PW X e tt ∧ SoT Γ tt m
def PD (X : Cx) (Γ : Cn) (es : List Expr) (m : M (List Dt)) : Prop := ∃ ta, PA X es ta ∧ SoD Γ ta m
def PQ (X : Cx) (Γ : Cn) (st : Stmt) (m : M Fl) : Prop := ∃ ts, PS X st ts ∧ SoS Γ ts m
def PQs (X : Cx) (Γ : Cn) (st : List Stmt) (m : M Fl) : Prop := ∃ ts, PSs X st ts ∧ SoS Γ ts m

/-! ### names, constants -/
def mVar (i : Nat) : M Dt := fun δ =>
  match δ[i]? with
  | some (.dat d) => .ok d δ
  | some (.lst ds) => .ok (.lst ds) (δ.set i (.dat (.lst ds)))
  | _ => .bad
def mC (d : Dt) : M Dt := fun δ => .ok d δ
@[simp] theorem mC_eq {d : Dt} {δ : List Sv} : mC d δ = .ok d δ := rfl
section
variable {X : Cx} {Γ : Cn} {F : Fm} [L : Lk X Γ]
theorem so_var {i : Nat} : SoE Γ (tVar i) (mVar i) := by
  intro F δ G H σ Q at_ h
  unfold mVar at h
  split at h
  · rename_i d e
    obtain ⟨v, h1, h2⟩ := at_.dat e
    exact ⟨v, h1, h G (Same.refl G) v H at_ h2⟩
  · rename_i ds e
    obtain ⟨b, xs, h1, _⟩ := at_.lst e
    obtain ⟨G', s', a'⟩ := at_.freeze e
    have hil := (List.getElem?_eq_some_iff.mp e).1
    obtain ⟨v, k1, k2⟩ := a'.dat (i := i) (d := .lst ds) (by rw [set_get, if_pos rfl, if_pos hil])
    exact ⟨v, k1, h G' s' v H a' k2⟩
  · exact h.elim
theorem qv {i : Nat} {x : Str} {pos : Pos} (hN : X.N[i]? = some x) (hv : Vis X.env.scope x) (hd : (x == ("__debug__" : Str)) = false := by decide) (hcd : (x == ("__classdict__" : Str)) = false := by decide) : PM X Γ (.Name x pos) (mVar i) :=
  ⟨_, pe_var hN hv hd hcd, so_var⟩
theorem so_c {v : V} {d : Dt} (h : ∀ G, Dr Γ.K G v d) : SoE Γ (tC v) (mC d) := fun F δ G H σ Q at_ k => k G (Same.refl G) v H at_ (h G)
theorem qe_int {i : Int} {j : Nat} {pos : Pos} : PM X Γ (.Constant (.int i) j pos) (mC (.int i)) := ⟨_, pe_int, so_c fun _ => .int i⟩
theorem qe_bl {i : Bool} {j : Nat} {pos : Pos} : PM X Γ (.Constant (.bool i) j pos) (mC (.bl i)) := ⟨_, pe_bl, so_c fun _ => .bl i⟩
theorem qe_non {j : Nat} {pos : Pos} : PM X Γ (.Constant .none j pos) (mC .non) := ⟨_, pe_non, so_c fun _ => .non⟩
theorem qe_str {i : Str} {j : Nat} {pos : Pos} : PM X Γ (.Constant (.str i) j pos) (mC (.str i)) := ⟨_, pe_str, so_c fun _ => .str i⟩
/-- a constant of the module -/
theorem qe_gc {x : Str} {pos : Pos} {v : V} {d : Dt} (hg : Gl X x) (h : ∃ u, X.mg x = some u ∧ RelV v u) (hd : ∀ G, Dr Γ.K G v d) (hdb : (x == ("__debug__" : Str)) = false := by decide) : PM X Γ (.Name x pos) (mC d) := ⟨_, pe_gc hg h hdb, so_c hd⟩
/-- a built-in's name as a value -/
theorem qe_ty {x : Str} {T : String} {pos : Pos} (hg : Gl X x) (hm : X.mg x = none) (hv : bootBuiltins x = some (.type T)) (hn : x ≠ "__name__" := by decide) (hdb : (x == ("__debug__" : Str)) = false := by decide) : PM X Γ (.Name x pos) (mC (.raw (.ty T))) :=
  ⟨_, pe_bltn (v := .ty T) (u := .type T) hg hm hv rfl hn hdb, so_c fun _ => .raw _⟩

/-! ### operands: an expression, or a name whose list is read as it stands -/
inductive Rg where
  | ex (m : M Dt)
  | pk (i : Nat)
def Rg.run : Rg → M (Dt ⊕ Nat)
  | .ex m => fun δ => (m δ).bnd fun d δ' => .ok (.inl d) δ'
  | .pk i => fun δ => match δ[i]? with
    | some (.lst _) => .ok (.inr i) δ
    | some (.dat _) => .ok (.inr i) δ
    | _ => .bad
def rv (δ : List Sv) : Dt ⊕ Nat → Option Dt
  | .inl d => some d
  | .inr i => match δ[i]? with
    | some (.lst ds) => some (.lst ds)
    | some (.dat d) => some d
    | _ => none
@[simp] theorem run_ex {m : M Dt} {δ : List Sv} : (Rg.ex m).run δ = (m δ).bnd fun d δ' => .ok (.inl d) δ' := rfl
theorem run_pkL {i : Nat} {δ : List Sv} {ds : List Dt} (h : δ[i]? = some (.lst ds)) : (Rg.pk i).run δ = .ok (.inr i) δ := by simp only [Rg.run, h]
theorem rv_pkL {i : Nat} {δ : List Sv} {ds : List Dt} (h : δ[i]? = some (.lst ds)) : rv δ (.inr i) = some (.lst ds) := by simp only [rv, h]
@[simp] theorem rv_inl {d : Dt} {δ : List Sv} : rv δ (.inl d) = some d := rfl
def RvOk (K : PySem.W.Frag) (G : Hp) (σ : L2.St) (v : V) : Dt ⊕ Nat → Prop
  | .inl d => Dr K G v d
  | .inr i => σ[i]? = some (some v)
theorem RvOk.mono {K : PySem.W.Frag} {G G' : Hp} {σ : L2.St} {v : V} {x : Dt ⊕ Nat} (h : RvOk K G σ v x) (s : Same G G') : RvOk K G' σ v x := by
  cases x with
  | inl d => exact Dr.mono s h
  | inr i => exact h
theorem RvOk.dv {δ : List Sv} {G H : Hp} {σ : L2.St} {v : V} {x : Dt ⊕ Nat} {d : Dt} (h : RvOk Γ.K G σ v x) (a : At Γ F δ G H σ) (e : rv δ x = some d) : Dv (W0 Γ.K) G H v d := by
  cases x with
  | inl d' => cases e; exact .inl h
  | inr i =>
    have h : σ[i]? = some (some v) := h
    unfold rv at e
    simp only at e
    split at e
    · rename_i ds q
      cases e
      obtain ⟨b, xs, h1, h2, h3, h4⟩ := a.lst q
      rw [h] at h1
      cases h1
      exact .inr ⟨b, xs, ds, rfl, rfl, h2, h3, (fun z => by cases z), h4⟩
    · rename_i d' q
      cases e
      obtain ⟨v', h1, h2⟩ := a.dat q
      rw [h] at h1
      cases h1
      exact .inl h2
    · cases e
def SoG (Γ : Cn) (te : TE) (g : Rg) : Prop := ∀ F δ G H σ (Q : VK), At Γ F δ G H σ → OkR Γ F G (g.run δ) (fun x δ' G' => ∀ v H', At Γ F δ' G' H' σ → RvOk Γ.K G' σ v x → Q v H') → te σ H Q
def PR (X : Cx) (Γ : Cn) (e : Expr) (g : Rg) : Prop := ∃ te, PE X e te ∧ SoG Γ te g
theorem PM.r {e : Expr} {m : M Dt} (h : PM X Γ e m) : PR X Γ e (.ex m) := by
  obtain ⟨te, h1, h2⟩ := h
  refine ⟨te, h1, fun F δ G H σ Q at_ k => h2 F δ G H σ Q at_ ?_⟩
  exact (OkR.bnd k).imp fun d δ' G' s q v H' a r => q G' (Same.refl _) v H' a r
theorem qr_pk {i : Nat} {x : Str} {pos : Pos} (hN : X.N[i]? = some x) (hv : Vis X.env.scope x) (hd : (x == ("__debug__" : Str)) = false := by decide) (hcd : (x == ("__classdict__" : Str)) = false := by decide) : PR X Γ (.Name x pos) (.pk i) := by
  refine ⟨_, pe_var hN hv hd hcd, fun F δ G H σ Q at_ k => ?_⟩
  simp only [Rg.run] at k
  split at k
  · rename_i ds e
    obtain ⟨b, xs, h1, _⟩ := at_.lst e
    exact ⟨_, h1, k G (Same.refl _) _ H at_ h1⟩
  · rename_i d e
    obtain ⟨v, h1, _⟩ := at_.dat e
    exact ⟨_, h1, k G (Same.refl _) _ H at_ h1⟩
  · exact k.elim

/-! ### operators -/
def opt2 (f : Dt → Dt → Option Dt) (o1 o2 : Option Dt) (δ : List Sv) : Res Dt :=
  match o1, o2 with
  | some d, some e => opt (f d e) δ
  | _, _ => .bad
@[simp] theorem opt2_some {f : Dt → Dt → Option Dt} {d e : Dt} {δ : List Sv} : opt2 f (some d) (some e) δ = opt (f d e) δ := rfl
def mOp (f : Dt → Dt → Option Dt) (a b : Rg) : M Dt := fun δ => (a.run δ).bnd fun x δ1 => (b.run δ1).bnd fun y δ2 => opt2 f (rv δ2 x) (rv δ2 y) δ2
def OpS (K : PySem.W.Frag) (r : R2) (f : Dt → Dt → Option Dt) : Prop := ∀ x y z, f x y = some z → OD (W0 K) r x y (· = z)
theorem opt2_ok {f : Dt → Dt → Option Dt} {o1 o2 : Option Dt} {δ : List Sv} {G : Hp} {k : Dt → List Sv → Hp → Prop} (h : OkR Γ F G (opt2 f o1 o2 δ) k) : ∃ d e z, o1 = some d ∧ o2 = some e ∧ f d e = some z ∧ ∀ G', Same G G' → k z δ G' := by
  cases o1 with
  | none => exact h.elim
  | some d =>
    cases o2 with
    | none => exact h.elim
    | some e =>
      obtain ⟨z, h1, h2⟩ := OkR.opt h
      exact ⟨d, e, z, rfl, rfl, h1, h2⟩
theorem op_fin {r : R2} {f : Dt → Dt → Option Dt} {δ : List Sv} {G H : Hp} {σ : L2.St} {v w : V} {x y : Dt ⊕ Nat} {Q : VK} (hf : OpS Γ.K r f) (a : At Γ F δ G H σ) (rx : RvOk Γ.K G σ v x) (ry : RvOk Γ.K G σ w y)
    (k : OkR Γ F G (opt2 f (rv δ x) (rv δ y) δ) fun d δ' G' => ∀ v H', At Γ F δ' G' H' σ → Dr Γ.K G' v d → Q v H') : r v w H Q := by
  obtain ⟨d, e, z, h1, h2, h3, h4⟩ := opt2_ok k
  refine hf d e z h3 G H v w Q (good0 a.sub) (rx.dv a h1) (ry.dv a h2) fun u d' G' H' f' g' r' p' => ?_
  subst p'
  exact h4 G' f'.g u H' (a.step f' g'.sub) r'
theorem so_op {r : R2} {f : Dt → Dt → Option Dt} {ta tb : TE} {a b : Rg} (hf : OpS Γ.K r f) (ha : SoG Γ ta a) (hb : SoG Γ tb b) : SoE Γ (tOp r ta tb) (mOp f a b) := fun F δ G H σ Q at_ k =>
  ha F δ G H σ _ at_ ((OkR.bnd k).imp fun x δ1 G1 s1 k1 v H1 a1 r1 => hb F δ1 G1 H1 σ _ a1 ((OkR.bnd k1).imp fun y δ2 G2 s2 k2 w H2 a2 r2 => op_fin hf a2 (r1.mono s2) r2 k2))
variable {e e1 e2 e3 : Expr} {pos : Pos} {g g1 g2 g3 : Rg} {m m1 m2 m3 : M Dt}
theorem qe_op {op : Operator} {r : R2} {f : Dt → Dt → Option Dt} (ho : OpR X (binaryOp op) r) (hf : OpS Γ.K r f) (ha : PR X Γ e1 g1) (hb : PR X Γ e2 g2) : PM X Γ (.BinOp e1 op e2 pos) (mOp f g1 g2) := by
  obtain ⟨ta, h1, h2⟩ := ha
  obtain ⟨tb, h3, h4⟩ := hb
  exact ⟨_, pe_op ho h1 h3, so_op hf h2 h4⟩
theorem qe_cmp {op : CmpOp} {r : R2} {f : Dt → Dt → Option Dt} (ho : OpR X (compareOp op) r) (hf : OpS Γ.K r f) (ha : PR X Γ e1 g1) (hb : PR X Γ e2 g2) (hm : behindInMarks op e2 = false) : PM X Γ (.Compare e1 [op] [e2] pos) (mOp f g1 g2) := by
  obtain ⟨ta, h1, h2⟩ := ha
  obtain ⟨tb, h3, h4⟩ := hb
  exact ⟨_, pe_cmpR ho h1 h3 hm, so_op hf h2 h4⟩
def mBl (r : Res Dt) : Res Bool := r.bnd fun d δ => match d with
  | .bl b => .ok b δ
  | _ => .bad
@[simp] theorem mBl_bl {b : Bool} {δ : List Sv} : mBl (.ok (.bl b) δ) = .ok b δ := rfl
theorem so_test {te : TE} (h : SoE Γ te m) : SoT Γ (tTest te) fun δ => mBl (m δ) := fun F δ G H σ Q at_ k =>
  h F δ G H σ _ at_ ((OkR.bnd k).imp fun d δ1 G1 s1 k1 v H1 a1 r1 => by
    cases d with
    | bl b => cases r1; exact ⟨b, rfl, k1 G1 (Same.refl _) H1 a1⟩
    | _ => exact k1.elim)
theorem so_B {te : TE} (h : SoE Γ te m) : SoT Γ (tB te) fun δ => mBl (m δ) := so_test h
theorem qt_cmp {op : CmpOp} {r : R2} {f : Dt → Dt → Option Dt} (ho : OpR X (compareOp op) r) (hf : OpS Γ.K r f) (ha : PR X Γ e1 g1) (hb : PR X Γ e2 g2) (hm : behindInMarks op e2 = false) : PB X Γ (.Compare e1 [op] [e2] pos) fun δ => mBl (mOp f g1 g2 δ) := by
  obtain ⟨ta, h1, h2⟩ := ha
  obtain ⟨tb, h3, h4⟩ := hb
  exact ⟨_, pt_cmpR ho h1 h3 hm, so_test (so_op hf h2 h4)⟩
def mChain (f f' : Dt → Dt → Option Dt) (a b c : Rg) : M Dt := fun δ => (a.run δ).bnd fun x δ1 => (b.run δ1).bnd fun y δ2 => (mBl (opt2 f (rv δ2 x) (rv δ2 y) δ2)).bnd fun t δ2 =>
  if t = true then (c.run δ2).bnd fun z δ3 => opt2 f' (rv δ3 y) (rv δ3 z) δ3 else .ok (.bl false) δ2
theorem so_chain {r r' : R2} {f f' : Dt → Dt → Option Dt} {ta tb tc : TE} {a b c : Rg} (hf : OpS Γ.K r f) (hf' : OpS Γ.K r' f') (ha : SoG Γ ta a) (hb : SoG Γ tb b) (hc : SoG Γ tc c) : SoE Γ (tChain r r' ta tb tc) (mChain f f' a b c) := fun F δ G H σ Q at_ k =>
  ha F δ G H σ _ at_ ((OkR.bnd k).imp fun x δ1 G1 s1 k1 v H1 a1 r1 => hb F δ1 G1 H1 σ _ a1 ((OkR.bnd k1).imp fun y δ2 G2 s2 k2 w H2 a2 r2 =>
    op_fin hf a2 (r1.mono s2) r2 ((OkR.bnd (OkR.bnd k2)).imp fun z δ3 G3 s3 k3 u H3 a3 r3 => by
      cases z with
      | bl b =>
        cases r3
        refine ⟨b, rfl, ?_⟩
        have k3 := k3 G3 (Same.refl _)
        cases b with
        | true =>
          rw [if_pos rfl] at k3 ⊢
          exact hc F δ3 G3 H3 σ _ a3 ((OkR.bnd k3).imp fun q δ4 G4 s4 k4 u4 H4 a4 r4 => op_fin hf' a4 ((r2.mono s3).mono s4) r4 k4)
        | false => exact k3 G3 (Same.refl _) _ H3 a3 (.bl false)
      | _ => exact k3.elim)))
theorem qe_chain {op op' : CmpOp} {r r' : R2} {f f' : Dt → Dt → Option Dt} (ho : OpR X (compareOp op) r) (ho' : OpR X (compareOp op') r') (hf : OpS Γ.K r f) (hf' : OpS Γ.K r' f') (ha : PR X Γ e1 g1) (hb : PR X Γ e2 g2) (hc : PR X Γ e3 g3)
    (hm : lastMarks [op, op'] [e2, e3] = false := by with_unfolding_all rfl) : PM X Γ (.Compare e1 [op, op'] [e2, e3] pos) (mChain f f' g1 g2 g3) := by
  obtain ⟨ta, h1, h2⟩ := ha
  obtain ⟨tb, h3, h4⟩ := hb
  obtain ⟨tc, h5, h6⟩ := hc
  exact ⟨_, pe_chain ho ho' h1 h3 h5 hm, so_chain hf hf' h2 h4 h6⟩
theorem qt_chain {op op' : CmpOp} {r r' : R2} {f f' : Dt → Dt → Option Dt} (ho : OpR X (compareOp op) r) (ho' : OpR X (compareOp op') r') (hf : OpS Γ.K r f) (hf' : OpS Γ.K r' f') (ha : PR X Γ e1 g1) (hb : PR X Γ e2 g2) (hc : PR X Γ e3 g3)
    (hm : lastMarks [op, op'] [e2, e3] = false := by with_unfolding_all rfl) : PB X Γ (.Compare e1 [op, op'] [e2, e3] pos) fun δ => mBl (mChain f f' g1 g2 g3 δ) := by
  obtain ⟨ta, h1, h2⟩ := ha
  obtain ⟨tb, h3, h4⟩ := hb
  obtain ⟨tc, h5, h6⟩ := hc
  exact ⟨_, pt_chain ho ho' h1 h3 h5 hm, so_test (so_chain hf hf' h2 h4 h6)⟩
/-! is None -/
def isN : Dt → Option Bool
  | .non => some true
  | .bl _ | .int _ | .str _ | .tup _ | .lst _ | .obj _ _ | .dct _ | .scr _ => some false
  | .raw _ => none
def mIsN (b : Bool) (m : M Dt) : M Dt := fun δ => (m δ).bnd fun d δ' => (opt (isN d) δ').bnd fun t δ' => .ok (.bl (if b then t else !t)) δ'
theorem isN_dr {K : PySem.W.Frag} {G : Hp} {v : V} {d : Dt} {b : Bool} (r : Dr K G v d) (h : isN d = some b) : decide (v = .non) = b := by
  cases r <;> cases h <;> first | rfl | exact decide_eq_false (fun z => by cases z)
theorem so_isN {te : TE} (h : SoE Γ te m) : SoE Γ (tIsN te) (mIsN true m) := fun F δ G H σ Q at_ k =>
  h F δ G H σ _ at_ ((OkR.bnd k).imp fun d δ1 G1 s1 k1 v H1 a1 r1 => by
    obtain ⟨b, e, k2⟩ := OkR.opt (OkR.bnd k1)
    rw [isN_dr r1 e]
    exact k2 G1 (Same.refl _) G1 (Same.refl _) _ H1 a1 (.bl _))
theorem so_notN {te : TE} (h : SoE Γ te m) : SoE Γ (tNotN te) (mIsN false m) := fun F δ G H σ Q at_ k =>
  h F δ G H σ _ at_ ((OkR.bnd k).imp fun d δ1 G1 s1 k1 v H1 a1 r1 => by
    obtain ⟨b, e, k2⟩ := OkR.opt (OkR.bnd k1)
    rw [isN_dr r1 e]
    exact k2 G1 (Same.refl _) G1 (Same.refl _) _ H1 a1 (.bl _))
theorem qe_isN {p1 : Pos} {j : Nat} (h : PM X Γ e m) : PM X Γ (.Compare e [.Is] [.Constant .none j p1] pos) (mIsN true m) := by
  obtain ⟨te, h1, h2⟩ := h
  exact ⟨_, pe_cmp (pc_isN h1) rfl, so_isN h2⟩
theorem qe_notN {p1 : Pos} {j : Nat} (h : PM X Γ e m) : PM X Γ (.Compare e [.IsNot] [.Constant .none j p1] pos) (mIsN false m) := by
  obtain ⟨te, h1, h2⟩ := h
  exact ⟨_, pe_cmp (pc_notN h1) rfl, so_notN h2⟩
theorem qt_val (h : PM X Γ e m) (hp : PE X e = PE X e := rfl) (he : ∀ whole, isTrue e X.env whole = (do let v ← whole; standAt e.pos; holding [v] (truthy v)) := by intro _; rfl) : PB X Γ e fun δ => mBl (m δ) := by
  obtain ⟨te, h1, h2⟩ := h
  exact ⟨_, pt_val h1 he, so_B h2⟩
end
end Qm

set_option Elab.async false
set_option linter.all false
set_option maxRecDepth 100000
set_option maxHeartbeats 2000000
namespace Qm
open PySem PySem.Spec PyProof.Rows L2 Pd

/-! ### one reading for a mirror, whatever the context -/
def teOf (Γ : Cn) (m : M Dt) : TE := fun σ H Q => ∃ F δ G, At Γ F δ G H σ ∧ OkR Γ F G (m δ) fun d δ' G' => ∀ v H', At Γ F δ' G' H' σ → Dr Γ.K G' v d → Q v H'
theorem so_teOf {Γ : Cn} {m : M Dt} : SoE Γ (teOf Γ m) m := fun F δ G H σ Q a h => ⟨F, δ, G, a, h⟩
theorem PM.can {X : Cx} {Γ : Cn} {e : Expr} {m : M Dt} (h : PM X Γ e m) : PE X e (teOf Γ m) := by
  obtain ⟨te, h1, h2⟩ := h
  exact ⟨fun pins s σ H Q I ⟨F, δ, G, a, k⟩ => h1.run pins s σ H Q I (h2 F δ G H σ Q a k)⟩
def ttOf (Γ : Cn) (m : M Bool) : TT := fun σ H Q => ∃ F δ G, At Γ F δ G H σ ∧ OkR Γ F G (m δ) fun b δ' G' => ∀ H', At Γ F δ' G' H' σ → Q b H'
theorem so_ttOf {Γ : Cn} {m : M Bool} : SoT Γ (ttOf Γ m) m := fun F δ G H σ Q a h => ⟨F, δ, G, a, h⟩
theorem PB.can {X : Cx} {Γ : Cn} {e : Expr} {m : M Bool} (h : PB X Γ e m) : PT X e (ttOf Γ m) := by
  obtain ⟨te, h1, h2⟩ := h
  exact ⟨fun pins s σ H Q I ⟨F, δ, G, a, k⟩ => h1.run pins s σ H Q I (h2 F δ G H σ Q a k)⟩

section
variable {X : Cx} {Γ : Cn} {F : Fm} [L : Lk X Γ]
variable {e e1 e2 e3 : Expr} {pos : Pos} {g g1 g2 g3 : Rg} {m m1 m2 m3 : M Dt} {b1 b2 : M Bool}
/-! ### and, or, not, if -/
def mAnd (a b : M Bool) : M Bool := fun δ => (a δ).bnd fun t δ1 => if t = true then b δ1 else .ok false δ1
def mOr (a b : M Bool) : M Bool := fun δ => (a δ).bnd fun t δ1 => if t = true then .ok true δ1 else b δ1
def mNot (a : M Bool) : M Bool := fun δ => (a δ).bnd fun t δ1 => .ok (!t) δ1
theorem so_and {ta tb : TT} (ha : SoT Γ ta b1) (hb : SoT Γ tb b2) : SoT Γ (tAnd ta tb) (mAnd b1 b2) := fun F δ G H σ Q at_ k =>
  ha F δ G H σ _ at_ ((OkR.bnd k).imp fun t δ1 G1 s1 k1 H1 a1 => by
    cases t with
    | true => rw [if_pos rfl] at k1 ⊢; exact hb F δ1 G1 H1 σ Q a1 k1
    | false => exact k1 G1 (Same.refl _) H1 a1)
theorem so_or {ta tb : TT} (ha : SoT Γ ta b1) (hb : SoT Γ tb b2) : SoT Γ (tOr ta tb) (mOr b1 b2) := fun F δ G H σ Q at_ k =>
  ha F δ G H σ _ at_ ((OkR.bnd k).imp fun t δ1 G1 s1 k1 H1 a1 => by
    cases t with
    | true => exact k1 G1 (Same.refl _) H1 a1
    | false => rw [if_neg (by decide)] at k1 ⊢; exact hb F δ1 G1 H1 σ Q a1 k1)
theorem so_not {ta : TT} (ha : SoT Γ ta b1) : SoT Γ (tNot ta) (mNot b1) := fun F δ G H σ Q at_ k =>
  ha F δ G H σ _ at_ ((OkR.bnd k).imp fun t δ1 G1 s1 k1 H1 a1 => k1 G1 (Same.refl _) H1 a1)
theorem qw_and1 (ha : PB X Γ e b1) : PBw X Γ (.BoolOp .And [e] pos) b1 := let ⟨t, h1, h2⟩ := ha; ⟨t, pw_and1 h1, h2⟩
theorem qw_or1 (ha : PB X Γ e b1) : PBw X Γ (.BoolOp .Or [e] pos) b1 := let ⟨t, h1, h2⟩ := ha; ⟨t, pw_or1 h1, h2⟩
theorem qw_and {rest : List Expr} (ha : PB X Γ e b1) (hb : PBw X Γ (.BoolOp .And (e2 :: rest) pos) b2) : PBw X Γ (.BoolOp .And (e :: e2 :: rest) pos) (mAnd b1 b2) := let ⟨_, h1, h2⟩ := ha; let ⟨_, h3, h4⟩ := hb; ⟨_, pw_and h1 h3, so_and h2 h4⟩
theorem qw_or {rest : List Expr} (ha : PB X Γ e b1) (hb : PBw X Γ (.BoolOp .Or (e2 :: rest) pos) b2) : PBw X Γ (.BoolOp .Or (e :: e2 :: rest) pos) (mOr b1 b2) := let ⟨_, h1, h2⟩ := ha; let ⟨_, h3, h4⟩ := hb; ⟨_, pw_or h1 h3, so_or h2 h4⟩
theorem PBw.pt (h : PBw X Γ e b1) : PB X Γ e b1 := let ⟨t, h1, h2⟩ := h; ⟨t, h1.pt, h2⟩
theorem qt_not (ha : PB X Γ e b1) : PB X Γ (.UnaryOp .Not e pos) (mNot b1) := let ⟨_, h1, h2⟩ := ha; ⟨_, pt_not h1, so_not h2⟩
theorem qt_isN {p1 : Pos} {j : Nat} (h : PM X Γ e m) : PB X Γ (.Compare e [.Is] [.Constant .none j p1] pos) (fun δ => mBl (mIsN true m δ)) := let ⟨_, h1, h2⟩ := h; ⟨_, pt_cmp (pc_isN h1) rfl, so_B (so_isN h2)⟩
theorem qt_notN {p1 : Pos} {j : Nat} (h : PM X Γ e m) : PB X Γ (.Compare e [.IsNot] [.Constant .none j p1] pos) (fun δ => mBl (mIsN false m δ)) := let ⟨_, h1, h2⟩ := h; ⟨_, pt_cmp (pc_notN h1) rfl, so_B (so_notN h2)⟩
/-- as values -/
def mAndV (a b : M Dt) : M Dt := fun δ => (mBl (a δ)).bnd fun t δ1 => if t = true then b δ1 else .ok (.bl false) δ1
def mOrV (a b : M Dt) : M Dt := fun δ => (mBl (a δ)).bnd fun t δ1 => if t = true then .ok (.bl true) δ1 else b δ1
def mNotV (a : M Dt) : M Dt := fun δ => (mBl (a δ)).bnd fun t δ1 => .ok (.bl (!t)) δ1
theorem bl_fin {d : Dt} {δ : List Sv} {G : Hp} {v : V} {k : Bool → List Sv → Hp → Prop} (r : Dr Γ.K G v d) (h : OkR Γ F G (match d with | .bl b => Res.ok b δ | _ => .bad) k) : ∃ b, v = .bl b ∧ k b δ G := by
  cases d with
  | bl b => cases r; exact ⟨b, rfl, h G (Same.refl _)⟩
  | _ => exact h.elim
theorem so_andV {ta tb : TE} (ha : SoE Γ ta m1) (hb : SoE Γ tb m2) : SoE Γ (tAndV ta tb) (mAndV m1 m2) := fun F δ G H σ Q at_ k =>
  ha F δ G H σ _ at_ ((OkR.bnd (OkR.bnd k)).imp fun d δ1 G1 s1 k1 v H1 a1 r1 => by
    obtain ⟨b, rfl, k2⟩ := bl_fin r1 k1
    refine ⟨b, rfl, ?_⟩
    cases b with
    | true => rw [if_pos rfl] at k2 ⊢; exact hb F δ1 G1 H1 σ Q a1 k2
    | false => exact k2 G1 (Same.refl _) _ H1 a1 (.bl false))
theorem so_orV {ta tb : TE} (ha : SoE Γ ta m1) (hb : SoE Γ tb m2) : SoE Γ (tOrV ta tb) (mOrV m1 m2) := fun F δ G H σ Q at_ k =>
  ha F δ G H σ _ at_ ((OkR.bnd (OkR.bnd k)).imp fun d δ1 G1 s1 k1 v H1 a1 r1 => by
    obtain ⟨b, rfl, k2⟩ := bl_fin r1 k1
    refine ⟨b, rfl, ?_⟩
    cases b with
    | true => exact k2 G1 (Same.refl _) _ H1 a1 (.bl true)
    | false => rw [if_neg (by decide)] at k2 ⊢; exact hb F δ1 G1 H1 σ Q a1 k2)
theorem so_notV {ta : TE} (ha : SoE Γ ta m1) : SoE Γ (tNotV ta) (mNotV m1) := fun F δ G H σ Q at_ k =>
  ha F δ G H σ _ at_ ((OkR.bnd (OkR.bnd k)).imp fun d δ1 G1 s1 k1 v H1 a1 r1 => by
    obtain ⟨b, rfl, k2⟩ := bl_fin r1 k1
    exact ⟨b, rfl, k2 G1 (Same.refl _) _ H1 a1 (.bl _)⟩)
theorem qe_one {op : BoolOp} (h : PM X Γ e m) : PM X Γ (.BoolOp op [e] pos) m := let ⟨_, h1, h2⟩ := h; ⟨_, pe_one h1, h2⟩
theorem qe_and {rest : List Expr} (ha : PM X Γ e m1) (hb : PM X Γ (.BoolOp .And (e2 :: rest) pos) m2) : PM X Γ (.BoolOp .And (e :: e2 :: rest) pos) (mAndV m1 m2) := let ⟨_, h1, h2⟩ := ha; let ⟨_, h3, h4⟩ := hb; ⟨_, pe_and h1 h3, so_andV h2 h4⟩
theorem qe_or {rest : List Expr} (ha : PM X Γ e m1) (hb : PM X Γ (.BoolOp .Or (e2 :: rest) pos) m2) : PM X Γ (.BoolOp .Or (e :: e2 :: rest) pos) (mOrV m1 m2) := let ⟨_, h1, h2⟩ := ha; let ⟨_, h3, h4⟩ := hb; ⟨_, pe_or h1 h3, so_orV h2 h4⟩
theorem qe_not (ha : PM X Γ e m) : PM X Γ (.UnaryOp .Not e pos) (mNotV m) := let ⟨_, h1, h2⟩ := ha; ⟨_, pe_not h1, so_notV h2⟩
def mIf {α : Type} (t : M Bool) (a b : M α) : M α := fun δ => (t δ).bnd fun c δ1 => if c = true then a δ1 else b δ1
theorem so_if {tt : TT} {ta tb : TE} (ht : SoT Γ tt b1) (ha : SoE Γ ta m1) (hb : SoE Γ tb m2) : SoE Γ (tIf tt ta tb) (mIf b1 m1 m2) := fun F δ G H σ Q at_ k =>
  ht F δ G H σ _ at_ ((OkR.bnd k).imp fun t δ1 G1 s1 k1 H1 a1 => by
    cases t with
    | true => rw [if_pos rfl] at k1 ⊢; exact ha F δ1 G1 H1 σ Q a1 k1
    | false => rw [if_neg (by decide)] at k1 ⊢; exact hb F δ1 G1 H1 σ Q a1 k1)
theorem so_ifV {tt : TT} {ta tb : TE} {v1 v2 : M Sv} (ht : SoT Γ tt b1) (ha : SoV Γ ta v1) (hb : SoV Γ tb v2) : SoV Γ (tIf tt ta tb) (mIf b1 v1 v2) := fun F δ G H σ Q at_ k =>
  ht F δ G H σ _ at_ ((OkR.bnd k).imp fun t δ1 G1 s1 k1 H1 a1 => by
    cases t with
    | true => rw [if_pos rfl] at k1 ⊢; exact ha F δ1 G1 H1 σ Q a1 k1
    | false => rw [if_neg (by decide)] at k1 ⊢; exact hb F δ1 G1 H1 σ Q a1 k1)
theorem qe_if (ht : PB X Γ e b1) (ha : PM X Γ e1 m1) (hb : PM X Γ e2 m2) : PM X Γ (.IfExp e e1 e2 pos) (mIf b1 m1 m2) := let ⟨_, h1, h2⟩ := ht; let ⟨_, h3, h4⟩ := ha; let ⟨_, h5, h6⟩ := hb; ⟨_, pe_ifExp h1 h3 h5, so_if h2 h4 h6⟩
theorem qo_if {v1 v2 : M Sv} (ht : PB X Γ e b1) (ha : PV X Γ e1 v1) (hb : PV X Γ e2 v2) : PV X Γ (.IfExp e e1 e2 pos) (mIf b1 v1 v2) := let ⟨_, h1, h2⟩ := ht; let ⟨_, h3, h4⟩ := ha; let ⟨_, h5, h6⟩ := hb; ⟨_, pe_ifExp h1 h3 h5, so_ifV h2 h4 h6⟩

/-! ### arguments, tuples, lists -/
def mAll : List (M Dt) → M (List Dt)
  | [] => fun δ => .ok [] δ
  | m :: ms => fun δ => (m δ).bnd fun d δ1 => (mAll ms δ1).bnd fun ds δ2 => .ok (d :: ds) δ2
variable {es : List Expr} {ms : List (M Dt)}
theorem qa_nil : PD X Γ [] (mAll []) := ⟨_, pa_nil, fun F δ G H σ Q a k => k G (Same.refl _) [] H a .nil⟩
theorem qa_cons (ha : PM X Γ e m) (hr : PD X Γ es (mAll ms)) (hs : starEach (e :: es) X.env = (false, eval e X.env) :: starEach es X.env := by rfl) : PD X Γ (e :: es) (mAll (m :: ms)) := by
  obtain ⟨ta, h1, h2⟩ := ha
  obtain ⟨tb, h3, h4⟩ := hr
  refine ⟨_, pa_cons h1 h3 hs, fun F δ G H σ Q a k => h2 F δ G H σ _ a ((OkR.bnd k).imp fun d δ1 G1 s1 k1 v H1 a1 r1 => h4 F δ1 G1 H1 σ _ a1 ((OkR.bnd k1).imp fun ds δ2 G2 s2 k2 vs H2 a2 r2 => ?_))⟩
  exact k2 G2 (Same.refl _) (v :: vs) H2 a2 (.cons (r1.mono s2) r2)
theorem mAll_len : ∀ {ms : List (M Dt)} {δ δ' : List Sv} {ds : List Dt}, mAll ms δ = .ok ds δ' → ds.length = ms.length
  | [], δ, δ', ds, h => by cases h; rfl
  | m :: ms, δ, δ', ds, h => by
    unfold mAll at h
    cases h1 : m δ with
    | ok d δ1 =>
      rw [h1, bnd_ok] at h
      cases h2 : mAll ms δ1 with
      | ok ds2 δ2 =>
        rw [h2, bnd_ok] at h
        cases h
        rw [List.length_cons, List.length_cons, mAll_len h2]
      | exc x δ2 => rw [h2] at h; cases h
      | bad => rw [h2] at h; cases h
    | exc x δ1 => rw [h1] at h; cases h
    | bad => rw [h1] at h; cases h
def mTup (ms : List (M Dt)) : M Dt := fun δ => (mAll ms δ).bnd fun ds δ' => if ds.length ≤ 100000 then .ok (.tup ds) δ' else .bad
def mLst (ms : List (M Dt)) : M Dt := fun δ => (mAll ms δ).bnd fun ds δ' => if ds.length ≤ 100000 then .ok (.lst ds) δ' else .bad
def mLstN (ms : List (M Dt)) : M Sv := fun δ => (mAll ms δ).bnd fun ds δ' => if ds.length ≤ 100000 then .ok (.lst ds) δ' else .bad
theorem if_ok {α : Type} {p : Prop} [Decidable p] {r : Res α} {G : Hp} {k : α → List Sv → Hp → Prop} (h : OkR Γ F G (if p then r else .bad) k) : p ∧ OkR Γ F G r k := by
  split at h
  · rename_i hp; exact ⟨hp, h⟩
  · exact h.elim
theorem size_le {n : Nat} (h : n ≤ 100000) : n ≤ sizeLine := Nat.le_trans h (by decide)
theorem qe_tup {k : Nat} (h : PD X Γ es (mAll ms)) : PM X Γ (.Tuple es k pos) (mTup ms) := by
  obtain ⟨ta, h1, h2⟩ := h
  refine ⟨_, pe_tup h1, fun F δ G H σ Q a k => h2 F δ G H σ _ a ((OkR.bnd k).imp fun ds δ1 G1 s1 k1 vs H1 a1 r1 => ?_)⟩
  obtain ⟨hl, k1⟩ := if_ok k1
  refine ⟨by rw [r1.length]; exact size_le hl, fun p hp => ?_⟩
  have g := good0 (K := Γ.K) a1.sub
  exact k1 (upd G1 p (.tup vs)) (same_new (g.gn hp)) _ _ (a1.step (Fr.new g hp) (g.new hp).sub) (.tup (.inl (.inl upd_same)) (r1.mono (same_new (g.gn hp))))
theorem qe_lst (h : PD X Γ es (mAll ms)) : PM X Γ (.List es pos) (mLst ms) := by
  obtain ⟨ta, h1, h2⟩ := h
  refine ⟨_, pe_lst h1, fun F δ G H σ Q a k => h2 F δ G H σ _ a ((OkR.bnd k).imp fun ds δ1 G1 s1 k1 vs H1 a1 r1 => ?_)⟩
  obtain ⟨hl, k1⟩ := if_ok k1
  refine ⟨by rw [r1.length]; exact size_le hl, fun p hp => ?_⟩
  have g := good0 (K := Γ.K) a1.sub
  exact k1 (upd G1 p (.lst vs)) (same_new (g.gn hp)) _ _ (a1.step (Fr.new g hp) (g.new hp).sub) (.lst upd_same (r1.mono (same_new (g.gn hp))))
theorem qo_lst (h : PD X Γ es (mAll ms)) : PV X Γ (.List es pos) (mLstN ms) := by
  obtain ⟨ta, h1, h2⟩ := h
  refine ⟨_, pe_lst h1, fun F δ G H σ Q a k => h2 F δ G H σ _ a ((OkR.bnd k).imp fun ds δ1 G1 s1 k1 vs H1 a1 r1 => ?_)⟩
  obtain ⟨hl, k1⟩ := if_ok k1
  exact ⟨by rw [r1.length]; exact size_le hl, fun p hp => k1 G1 (Same.refl _) _ _ (a1.pushL hp r1)⟩
def mDv (m : M Dt) : M Sv := fun δ => (m δ).bnd fun d δ' => .ok (.dat d) δ'
theorem qo_dat (h : PM X Γ e m) : PV X Γ e (mDv m) := by
  obtain ⟨te, h1, h2⟩ := h
  exact ⟨te, h1, fun F δ G H σ Q a k => h2 F δ G H σ _ a ((OkR.bnd k).imp fun d δ1 G1 s1 k1 v H1 a1 r1 => k1 G1 (Same.refl _) v H1 (a1.pushD r1))⟩
/-- an own thing becomes a datum -/
def mFz (m : M Sv) : M Dt := fun δ => (m δ).bnd fun s δ' => match s with
  | .dat d => .ok d δ'
  | .lst ds => .ok (.lst ds) δ'
  | _ => .bad
theorem At.popD {δ : List Sv} {G H : Hp} {σ : L2.St} {v : V} {d : Dt} (a : At Γ F (δ ++ [.dat d]) G H (σ ++ [some v])) (hn : Γ.n ≤ δ.length) : At Γ F δ G H σ ∧ Dr Γ.K G v d := by
  refine ⟨a.pop hn, ?_⟩
  have len : σ.length = δ.length := by simpa using a.len
  obtain ⟨v', h1, h2⟩ := a.dat (i := δ.length) (d := d) (by rw [get_app, if_neg (by omega), if_pos rfl])
  rw [get_app, len, if_neg (by omega), if_pos rfl] at h1
  cases h1
  exact h2
theorem len_app {δ δ' : List Sv} {G H : Hp} {G' H' : Hp} {σ : L2.St} {v : V} {s : Sv} (a : At Γ F δ G H σ) (a' : At Γ F (δ' ++ [s]) G' H' (σ ++ [some v])) : Γ.n ≤ δ'.length := by
  have h1 := a.len
  have h2 := a'.len
  have h3 := a.nl
  rw [List.length_append, List.length_append, List.length_singleton, List.length_singleton] at h2
  omega
theorem set_last {α : Type} {l : List α} {x y : α} : (l ++ [x]).set l.length y = l ++ [y] := by
  rw [List.set_append]
  simp
theorem qe_fz {mv : M Sv} (h : PV X Γ e mv) : PM X Γ e (mFz mv) := by
  obtain ⟨te, h1, h2⟩ := h
  refine ⟨te, h1, fun F δ G H σ Q a k => h2 F δ G H σ _ a ((OkR.bnd k).imp fun s δ1 G1 s1 k1 v H1 a1 => ?_)⟩
  have hn := len_app a a1
  cases s with
  | dat d => obtain ⟨a2, r2⟩ := a1.popD hn; exact k1 G1 (Same.refl _) v H1 a2 r2
  | lst ds =>
    obtain ⟨G2, s2, a2⟩ := a1.freeze (i := δ1.length) (ds := ds) (by rw [get_app, if_neg (by omega), if_pos rfl])
    rw [set_last] at a2
    obtain ⟨a3, r3⟩ := a2.popD hn
    exact k1 G2 s2 v H1 a3 r3
  | un => exact k1.elim
  | dic kvs => exact k1.elim
  | ins C fs => exact k1.elim
end
end Qm

set_option Elab.async false
set_option linter.all false
set_option maxRecDepth 100000
set_option maxHeartbeats 2000000
namespace Qm
open PySem PySem.Spec PyProof.Rows L2 Pd

/-! ### operators on data -/
def addD : Dt → Dt → Option Dt
  | .int i, .int j => some (.int (i + j))
  | .str x, .str y => if x.length + y.length ≤ 100000 then some (.str (x ++ y)) else none
  | .lst xs, .lst ys => if xs.length + ys.length ≤ 100000 then some (.lst (xs ++ ys)) else none
  | .tup xs, .tup ys => if xs.length + ys.length ≤ 100000 then some (.tup (xs ++ ys)) else none
  | _, _ => none
def subD : Dt → Dt → Option Dt
  | .int i, .int j => some (.int (i - j))
  | _, _ => none
instance (i j : Int) : Decidable (CMul i j) := by unfold CMul; infer_instance
instance (i j : Int) : Decidable (CMulW i j) := by unfold CMulW; infer_instance
instance (i j : Int) : Decidable (CDivW i j) := by unfold CDivW; infer_instance
instance (i j : Int) : Decidable (CPow i j) := by unfold CPow; infer_instance
def mulD : Dt → Dt → Option Dt
  | .int i, .int j => if CMul i j ∨ CMulW i j then some (.int (i * j)) else none
  | .lst xs, .int n => if 0 ≤ n ∧ n ≤ 100000 ∧ xs.length * n.toNat ≤ 100000 then some (.lst (List.replicate n.toNat xs).flatten) else none
  | _, _ => none
def modD : Dt → Dt → Option Dt
  | .int i, .int j => if 0 < j then some (.int (i % j)) else none
  | _, _ => none
def divD : Dt → Dt → Option Dt
  | .int i, .int j => if CDivW i j then some (.int (i / j)) else none
  | _, _ => none
def powD : Dt → Dt → Option Dt
  | .int i, .int j => if CPow i j then some (.int (i ^ j.toNat)) else none
  | _, _ => none
def ltD : Dt → Dt → Option Dt
  | .int i, .int j => some (.bl (decide (i < j)))
  | _, _ => none
def leD : Dt → Dt → Option Dt
  | .int i, .int j => some (.bl (decide (i ≤ j)))
  | _, _ => none
def gtD : Dt → Dt → Option Dt
  | .int i, .int j => some (.bl (decide (j < i)))
  | _, _ => none
def geD : Dt → Dt → Option Dt
  | .int i, .int j => some (.bl (decide (j ≤ i)))
  | _, _ => none
/-- a == b -/
def eqB (x y : Dt) : Option Bool :=
  match toPy x, toPy y with
  | some p, some q => if min p.depth q.depth ≤ 60 then some (PyData.eqv p q) else none
  | _, _ => none
def eqD (x y : Dt) : Option Dt := (eqB x y).map Dt.bl
def neD (x y : Dt) : Option Dt := (eqB x y).map fun b => .bl (!b)
def inB (x y : Dt) : Option Bool :=
  match toPy x, y with
  | some p, .lst ys => match toPys ys with
    | some qs => if min (PyData.depthAll qs) p.depth ≤ 60 then some (qs.any fun z => PyData.eqv z p) else none
    | none => none
  | some p, .tup ys => match toPys ys with
    | some qs => if min (PyData.depthAll qs) p.depth ≤ 60 then some (qs.any fun z => PyData.eqv z p) else none
    | none => none
  | some (.str z), .str y => if z.cps.size = 1 then some (decide (z.cps[0]? ∈ y.cps.toList.map some)) else none
  | _, _ => none
def inD (x y : Dt) : Option Dt := (inB x y).map Dt.bl
def notInD (x y : Dt) : Option Dt := (inB x y).map fun b => .bl (!b)

mutual
theorem toPy_plain : ∀ {d : Dt} {p : PyData}, toPy d = some p → p.plain = true
  | .non, p, h => by cases h; rfl
  | .bl _, p, h => by cases h; rfl
  | .int _, p, h => by cases h; rfl
  | .str _, p, h => by cases h; rfl
  | .tup ds, p, h => by
    unfold toPy at h
    cases q : toPys ds with
    | none => rw [q] at h; cases h
    | some ps => rw [q] at h; cases h; unfold PyData.plain; exact toPys_plain q
  | .lst ds, p, h => by
    unfold toPy at h
    cases q : toPys ds with
    | none => rw [q] at h; cases h
    | some ps => rw [q] at h; cases h; unfold PyData.plain; exact toPys_plain q
  | .scr _, p, h => by cases h
  | .dct _, p, h => by cases h
  | .raw _, p, h => by cases h
  | .obj _ _, p, h => by cases h
theorem toPys_plain : ∀ {ds : List Dt} {ps : List PyData}, toPys ds = some ps → PyData.plainAll ps = true
  | [], ps, h => by cases h; rfl
  | d :: ds, ps, h => by
    unfold toPys at h
    cases q : toPy d with
    | none => rw [q] at h; cases h
    | some p =>
      cases q2 : toPys ds with
      | none => rw [q, q2] at h; cases h
      | some qs =>
        rw [q, q2] at h
        cases h
        unfold PyData.plainAll
        rw [toPy_plain q, toPys_plain q2]
        rfl
end
section
variable {X : Cx} {K : PySem.W.Frag}
def rEqP (K : PySem.W.Frag) : R2 := fun x y H Q => ∃ d e, Dp K H x d ∧ Dp K H y e ∧ d.plain = true ∧ e.plain = true ∧ min d.depth e.depth ≤ 60 ∧ Q (.bl (PyData.eqv d e)) H
def rNeP (K : PySem.W.Frag) : R2 := fun x y H Q => ∃ d e, Dp K H x d ∧ Dp K H y e ∧ d.plain = true ∧ e.plain = true ∧ min d.depth e.depth ≤ 60 ∧ Q (.bl (!PyData.eqv d e)) H
theorem opEqP (hu : X.A.units + 65 < cLine) : OpR X (compareOp .Eq) (rEqP X.K) := by
  intro pins s σ H x y v u Q I rx ry h
  obtain ⟨d, e, hd, he, sd, se, hm, q⟩ := h
  obtain ⟨as, r1⟩ := Dp.reads I d x v hd rx
  obtain ⟨bs, r2⟩ := Dp.reads I e y u he ry
  exact SeqAt.eq_plain r1 r2 sd se (by omega) ⟨.bl _, H, I, rfl, q⟩
theorem opNeP (hu : X.A.units + 65 < cLine) : OpR X (compareOp .NotEq) (rNeP X.K) := by
  intro pins s σ H x y v u Q I rx ry h
  obtain ⟨d, e, hd, he, sd, se, hm, q⟩ := h
  obtain ⟨as, r1⟩ := Dp.reads I d x v hd rx
  obtain ⟨bs, r2⟩ := Dp.reads I e y u he ry
  exact SeqAt.ne_plain r1 r2 sd se (by omega) ⟨.bl _, H, I, rfl, q⟩
def rInP (K : PySem.W.Frag) : R2 := fun x y H Q => (∃ d ds, Dp K H x d ∧ (Dp K H y (.list ds) ∨ Dp K H y (.tuple ds)) ∧ d.plain = true ∧ PyData.plainAll ds = true ∧ min (PyData.depthAll ds) d.depth ≤ 60 ∧ Q (.bl (ds.any fun z => PyData.eqv z d)) H) ∨
  ∃ (c : Nat) (z : Str), x = .str ⟨#[c]⟩ ∧ y = .str z ∧ Q (.bl (decide (c ∈ z.cps.toList))) H
def rNotInP (K : PySem.W.Frag) : R2 := fun x y H Q => (∃ d ds, Dp K H x d ∧ (Dp K H y (.list ds) ∨ Dp K H y (.tuple ds)) ∧ d.plain = true ∧ PyData.plainAll ds = true ∧ min (PyData.depthAll ds) d.depth ≤ 60 ∧ Q (.bl (!ds.any fun z => PyData.eqv z d)) H) ∨
  ∃ (c : Nat) (z : Str), x = .str ⟨#[c]⟩ ∧ y = .str z ∧ Q (.bl (!decide (c ∈ z.cps.toList))) H
theorem opInP (hu : X.A.units + 65 < cLine) : OpR X (compareOp .In) (rInP X.K) := by
  intro pins s σ H x y v u Q I rx ry h
  rcases h with ⟨d, ds, hd, he, sd, se, hm, q⟩ | h
  · obtain ⟨as, r1⟩ := Dp.reads I d x v hd rx
    rcases he with he | he
    · obtain ⟨bs, r2⟩ := Dp.reads I (.list ds) y u he ry
      exact SeqAt.in_list_data r2 r1 se sd (by omega) ⟨.bl _, H, I, rfl, q⟩
    · obtain ⟨bs, r2⟩ := Dp.reads I (.tuple ds) y u he ry
      exact SeqAt.in_tuple_data r2 r1 se sd (by omega) ⟨.bl _, H, I, rfl, q⟩
  · exact op_in_sign pins s σ H x y v u Q I rx ry h
theorem opNotInP (hu : X.A.units + 65 < cLine) : OpR X (compareOp .NotIn) (rNotInP X.K) := by
  intro pins s σ H x y v u Q I rx ry h
  rcases h with ⟨d, ds, hd, he, sd, se, hm, q⟩ | h
  · obtain ⟨as, r1⟩ := Dp.reads I d x v hd rx
    rcases he with he | he
    · obtain ⟨bs, r2⟩ := Dp.reads I (.list ds) y u he ry
      exact SeqAt.notIn_list_data r2 r1 se sd (by omega) ⟨.bl _, H, I, rfl, q⟩
    · obtain ⟨bs, r2⟩ := Dp.reads I (.tuple ds) y u he ry
      exact SeqAt.notIn_tuple_data r2 r1 se sd (by omega) ⟨.bl _, H, I, rfl, q⟩
  · exact op_notIn_sign pins s σ H x y v u Q I rx ry h
def rMulB : R2 := fun x y H Q => rMulA x y H Q ∨ rI CMulW (fun i j => .int (i * j)) x y H Q
theorem opMulB : OpR X (binaryOp .Mult) rMulB := opMul.or op_mulW
end

section
variable {K : PySem.W.Frag}
theorem os_add : OpS K (rAddA K) addD := fun x y z h => by
  unfold addD at h
  split at h
  · cases h; exact od_addI rfl
  · split at h
    · cases h; exact od_addS (by assumption) rfl
    · cases h
  · split at h
    · cases h; exact od_addL (by assumption) rfl
    · cases h
  · split at h
    · cases h; exact od_addT (by assumption) rfl
    · cases h
  · cases h
theorem os_sub : OpS K (rI0 fun i j => .int (i - j)) subD := fun x y z h => by
  unfold subD at h
  split at h
  · cases h; exact od_subI rfl
  · cases h
theorem os_mul : OpS K rMulB mulD := fun x y z h => by
  unfold mulD at h
  split at h
  · split at h
    · rename_i hc
      cases h
      intro G H v w Q g hv hw k
      cases hv.int
      cases hw.int
      rcases hc with hc | hc
      · exact .inl (.inl ⟨_, _, rfl, rfl, hc, k _ _ G H (Fr.refl _ _ _) g (.int _) rfl⟩)
      · exact .inr ⟨_, _, rfl, rfl, hc, k _ _ G H (Fr.refl _ _ _) g (.int _) rfl⟩
    · cases h
  · rename_i xs n
    split at h
    · rename_i hc
      cases h
      obtain ⟨h1, h2, h3⟩ := hc
      intro G H v w Q g hv hw k
      exact .inl (od_repI (P := fun d => d = Dt.lst (List.replicate n.toNat xs).flatten) (n := n.toNat) (by omega) h3 (by omega) rfl G H v w Q g hv hw k)
    · cases h
  · cases h
theorem os_mod : OpS K (rI (fun _ j => 0 < j) fun i j => .int (i % j)) modD := fun x y z h => by
  unfold modD at h
  split at h
  · split at h
    · cases h; exact od_mod (by assumption) rfl
    · cases h
  · cases h
theorem os_div : OpS K (rI CDivW fun i j => .int (i / j)) divD := fun x y z h => by
  unfold divD at h
  split at h
  · split at h
    · cases h; exact od_div (by assumption) rfl
    · cases h
  · cases h
theorem os_pow : OpS K (rI CPow fun i j => .int (i ^ j.toNat)) powD := fun x y z h => by
  unfold powD at h
  split at h
  · split at h
    · cases h; exact od_pow (by assumption) rfl
    · cases h
  · cases h
theorem os_lt : OpS K (rI0 fun i j => .bl (decide (i < j))) ltD := fun x y z h => by
  unfold ltD at h
  split at h
  · cases h; exact od_lt rfl
  · cases h
theorem os_le : OpS K (rI0 fun i j => .bl (decide (i ≤ j))) leD := fun x y z h => by
  unfold leD at h
  split at h
  · cases h; exact od_le rfl
  · cases h
theorem os_gt : OpS K (rI0 fun i j => .bl (decide (j < i))) gtD := fun x y z h => by
  unfold gtD at h
  split at h
  · cases h; exact od_gt rfl
  · cases h
theorem os_ge : OpS K (rI0 fun i j => .bl (decide (j ≤ i))) geD := fun x y z h => by
  unfold geD at h
  split at h
  · cases h; exact od_ge rfl
  · cases h
theorem eqB_some {x y : Dt} {b : Bool} (h : eqB x y = some b) : ∃ p q, toPy x = some p ∧ toPy y = some q ∧ min p.depth q.depth ≤ 60 ∧ b = PyData.eqv p q := by
  unfold eqB at h
  split at h
  · rename_i p q h1 h2
    split at h
    · cases h; exact ⟨p, q, h1, h2, by assumption, rfl⟩
    · cases h
  · cases h
theorem os_eq : OpS K (rEqP K) eqD := fun x y z h => by
  unfold eqD at h
  cases e : eqB x y with
  | none => rw [e] at h; cases h
  | some b =>
    rw [e] at h
    cases h
    obtain ⟨p, q, h1, h2, h3, rfl⟩ := eqB_some e
    exact od_of (fun G H v w Q g hv hw k => ⟨p, q, (hv.dr g).dp h1, (hw.dr g).dp h2, toPy_plain h1, toPy_plain h2, h3, k _ (.bl _)⟩) rfl
theorem os_ne : OpS K (rNeP K) neD := fun x y z h => by
  unfold neD at h
  cases e : eqB x y with
  | none => rw [e] at h; cases h
  | some b =>
    rw [e] at h
    cases h
    obtain ⟨p, q, h1, h2, h3, rfl⟩ := eqB_some e
    exact od_of (fun G H v w Q g hv hw k => ⟨p, q, (hv.dr g).dp h1, (hw.dr g).dp h2, toPy_plain h1, toPy_plain h2, h3, k _ (.bl _)⟩) rfl
theorem inB_some {x y : Dt} {b : Bool} (h : inB x y = some b) : (∃ p qs, toPy x = some p ∧ (toPy y = some (.list qs) ∨ toPy y = some (.tuple qs)) ∧ PyData.plainAll qs = true ∧ min (PyData.depthAll qs) p.depth ≤ 60 ∧ b = (qs.any fun z => PyData.eqv z p)) ∨
    ∃ (c : Nat) (z : Str), x = .str ⟨#[c]⟩ ∧ y = .str z ∧ b = decide (c ∈ z.cps.toList) := by
  unfold inB at h
  split at h
  · rename_i p ys hx
    split at h
    · rename_i qs hy
      split at h
      · cases h; exact .inl ⟨p, qs, hx, .inl (by simp only [toPy, hy, Option.map_some]), toPys_plain hy, by assumption, rfl⟩
      · cases h
    · cases h
  · rename_i p ys hx
    split at h
    · rename_i qs hy
      split at h
      · cases h; exact .inl ⟨p, qs, hx, .inr (by simp only [toPy, hy, Option.map_some]), toPys_plain hy, by assumption, rfl⟩
      · cases h
    · cases h
  · rename_i z y hx
    split at h
    · rename_i h1
      have e : x = .str z := by
        cases x <;> first | (simp only [toPy, Option.some.injEq] at hx; cases hx; rfl) | (simp only [toPy] at hx; cases hx) | skip
        all_goals
          unfold toPy at hx
          rename_i ds
          cases q : toPys ds with
          | none => rw [q] at hx; cases hx
          | some ps => rw [q] at hx; cases hx
      obtain ⟨cps⟩ := z
      obtain ⟨l⟩ := cps
      match l, h1 with
      | [c], _ =>
        refine .inr ⟨c, y, e, rfl, ?_⟩
        simp only [Option.some.injEq] at h
        rw [← h]
        simp
    · cases h
  · cases h
theorem os_in : OpS K (rInP K) inD := fun x y z h => by
  unfold inD at h
  cases e : inB x y with
  | none => rw [e] at h; cases h
  | some b =>
    rw [e] at h
    cases h
    rcases inB_some e with ⟨p, qs, h1, h2, h3, h4, rfl⟩ | ⟨c, z, rfl, rfl, rfl⟩
    · refine od_of (fun G H v w Q g hv hw k => .inl ⟨p, qs, (hv.dr g).dp h1, ?_, toPy_plain h1, h3, h4, k _ (.bl _)⟩) rfl
      rcases h2 with h2 | h2
      · exact .inl ((hw.dr g).dp h2)
      · exact .inr ((hw.dr g).dp h2)
    · exact od_of (fun G H v w Q g hv hw k => by cases hv.str; cases hw.str; exact .inr ⟨c, z, rfl, rfl, k _ (.bl _)⟩) rfl
theorem os_notIn : OpS K (rNotInP K) notInD := fun x y z h => by
  unfold notInD at h
  cases e : inB x y with
  | none => rw [e] at h; cases h
  | some b =>
    rw [e] at h
    cases h
    rcases inB_some e with ⟨p, qs, h1, h2, h3, h4, rfl⟩ | ⟨c, z, rfl, rfl, rfl⟩
    · refine od_of (fun G H v w Q g hv hw k => .inl ⟨p, qs, (hv.dr g).dp h1, ?_, toPy_plain h1, h3, h4, k _ (.bl _)⟩) rfl
      rcases h2 with h2 | h2
      · exact .inl ((hw.dr g).dp h2)
      · exact .inr ((hw.dr g).dp h2)
    · exact od_of (fun G H v w Q g hv hw k => by cases hv.str; cases hw.str; exact .inr ⟨c, z, rfl, rfl, k _ (.bl _)⟩) rfl
/-! items -/
def ixD : Dt → Dt → Option Dt
  | .lst xs, .int i => atI xs i
  | .tup xs, .int i => atI xs i
  | .str z, .int i => if z.length ≤ 100000 then (atI z.cps.toList i).map fun c => .str ⟨#[c]⟩ else none
  | .scr ns, .int i => (atI ns i).map Dt.int
  | _, _ => none
theorem atI_some {α : Type} {xs : List α} {i : Int} {v : α} (h : atI xs i = some v) : ∃ j, ixN xs.length i = some j ∧ xs[j]? = some v := by
  unfold atI at h
  cases q : ixN xs.length i with
  | none => rw [q] at h; cases h
  | some j => rw [q] at h; exact ⟨j, rfl, h⟩
theorem atI_len {α β : Type} {xs : List α} {ys : List β} {i : Int} {j : Nat} {w : β} (hl : ys.length = xs.length) (h : ixN xs.length i = some j) (hw : ys[j]? = some w) : atI ys i = some w := by
  unfold atI
  rw [hl, h]
  exact hw
theorem os_ix : OpS K (rIx K) ixD := fun x y z h => by
  unfold ixD at h
  split at h
  · obtain ⟨j, h1, h2⟩ := atI_some h
    refine od_of (fun G H v w Q g hv hw k => ?_) rfl
    obtain ⟨a, us, rfl, h3, r1⟩ := hv.lst g
    cases hw.int
    obtain ⟨u, hu, r⟩ := r1.getD h2
    exact .inl ⟨a, us, _, u, rfl, rfl, SqL.of h3, atI_len r1.length h1 hu, k _ r⟩
  · obtain ⟨j, h1, h2⟩ := atI_some h
    refine od_of (fun G H v w Q g hv hw k => ?_) rfl
    obtain ⟨a, us, rfl, h3, r1⟩ := hv.tup
    cases hw.int
    obtain ⟨u, hu, r⟩ := r1.getD h2
    exact .inr (.inl ⟨a, us, _, u, rfl, rfl, sqT_mono g.sub h3, atI_len r1.length h1 hu, k _ r⟩)
  · split at h
    · rename_i s i hz
      cases q : atI s.cps.toList i with
      | none => rw [q] at h; cases h
      | some c =>
        rw [q] at h
        cases h
        exact od_of (fun G H v w Q g hv hw k => by
          cases hv.str
          cases hw.int
          exact .inr (.inr ⟨s, i, c, rfl, rfl, Nat.le_trans hz (by decide), q, k _ (.str _)⟩)) rfl
    · cases h
  · rename_i ns i
    cases q : atI ns i with
    | none => rw [q] at h; cases h
    | some c =>
      rw [q] at h
      cases h
      obtain ⟨j, h1, h2⟩ := atI_some q
      refine od_of (fun G H v w Q g hv hw k => ?_) rfl
      cases hw.int
      rcases hv with hv | ⟨a, xs, ds, h1, h2, _⟩
      · cases hv with
        | scr h3 => exact .inl ⟨_, _, i, .int c, rfl, rfl, g.sub.seq h3, atI_len (xs := ns) (by rw [List.length_map]) h1 (by rw [List.getElem?_map, h2]; rfl), k _ (.int _)⟩
      · cases h2
  · cases h
end
end Qm

set_option Elab.async false
set_option linter.all false
set_option maxRecDepth 100000
set_option maxHeartbeats 2000000
namespace Qm
open PySem PySem.Spec PyProof.Rows L2 Pd

section
variable {X : Cx} {Γ : Cn} {F : Fm} [L : Lk X Γ]
variable {e e1 e2 e3 : Expr} {pos p : Pos} {g g1 g2 g3 : Rg} {m m1 m2 m3 : M Dt} {b1 b2 : M Bool} {x : Str}
/-! ### calls of built-ins -/
def mCB (f : Dt → Option Dt) (a : Rg) : M Dt := fun δ => (a.run δ).bnd fun x δ1 => (opt (rv δ1 x) δ1).bnd fun d δ1 => opt (f d) δ1
def CS1 (K : PySem.W.Frag) (r : List V → Hp → VK → Prop) (f : Dt → Option Dt) : Prop := ∀ x z, f x = some z → CD (W0 K) r [x] (· = z)
def CS2 (K : PySem.W.Frag) (r : List V → Hp → VK → Prop) (f : Dt → Dt → Option Dt) : Prop := ∀ x y z, f x y = some z → CD (W0 K) r [x, y] (· = z)
theorem CS2.op {K : PySem.W.Frag} {r : List V → Hp → VK → Prop} {f : Dt → Dt → Option Dt} (h : CS2 K r f) : OpS K (fun x y H Q => r [x, y] H Q) f := fun x y z e G H v w Q g hv hw k => h x y z e G H [v, w] Q g (.cons hv (.cons hw .nil)) k
theorem so_cb1 {r : List V → Hp → VK → Prop} {f : Dt → Option Dt} {ta : TE} (hf : CS1 Γ.K r f) (ha : SoG Γ ta g) : SoE Γ (tCB r (tCons ta tNil)) (mCB f g) := fun F δ G H σ Q at_ k =>
  ha F δ G H σ _ at_ ((OkR.bnd k).imp fun x δ1 G1 s1 k1 v H1 a1 r1 => by
    obtain ⟨d, e, k2⟩ := OkR.opt (OkR.bnd k1)
    obtain ⟨z, e2, k3⟩ := OkR.opt (k2 G1 (Same.refl _))
    refine hf d z e2 G1 H1 [v] Q (good0 a1.sub) (.cons (r1.dv a1 e) .nil) fun u d' G' H' f' g' r' p' => ?_
    subst p'
    exact k3 G' f'.g u H' (a1.step f' g'.sub) r')
theorem so_cb2 {r : List V → Hp → VK → Prop} {f : Dt → Dt → Option Dt} {ta tb : TE} (hf : CS2 Γ.K r f) (ha : SoG Γ ta g1) (hb : SoG Γ tb g2) : SoE Γ (tCB r (tCons ta (tCons tb tNil))) (mOp f g1 g2) := so_op hf.op ha hb
theorem qe_cb1 {id : String} {r : List V → Hp → VK → Prop} {f : Dt → Option Dt} (hc : CallR X (.builtin id) r) (hf : CS1 Γ.K r f) (hg : Gl X x) (hm : X.mg x = none) (hv : bootBuiltins x = some (.builtin id)) (ha : PR X Γ e g) (hn : x ≠ "__name__" := by decide) (hdb : (x == ("__debug__" : Str)) = false := by decide)
    (he : starEach [e] X.env = (false, eval e X.env) :: starEach [] X.env := by rfl) : PM X Γ (.Call (.Name x p) [e] [] pos) (mCB f g) := by
  obtain ⟨ta, h1, h2⟩ := ha
  exact ⟨_, pe_callB hc hg hm hv (pa_cons h1 pa_nil he) hn hdb he, so_cb1 hf h2⟩
theorem qe_ct1 {T : String} {r : List V → Hp → VK → Prop} {f : Dt → Option Dt} (hc : CallR X (.type T) r) (hf : CS1 Γ.K r f) (hg : Gl X x) (hm : X.mg x = none) (hv : bootBuiltins x = some (.type T)) (ha : PR X Γ e g) (hn : x ≠ "__name__" := by decide) (hdb : (x == ("__debug__" : Str)) = false := by decide)
    (he : starEach [e] X.env = (false, eval e X.env) :: starEach [] X.env := by rfl) : PM X Γ (.Call (.Name x p) [e] [] pos) (mCB f g) := by
  obtain ⟨ta, h1, h2⟩ := ha
  exact ⟨_, pe_callTy hc hg hm hv (pa_cons h1 pa_nil he) hn hdb he, so_cb1 hf h2⟩
theorem qe_cb2 {id : String} {r : List V → Hp → VK → Prop} {f : Dt → Dt → Option Dt} (hc : CallR X (.builtin id) r) (hf : CS2 Γ.K r f) (hg : Gl X x) (hm : X.mg x = none) (hv : bootBuiltins x = some (.builtin id)) (ha : PR X Γ e1 g1) (hb : PR X Γ e2 g2) (hn : x ≠ "__name__" := by decide) (hdb : (x == ("__debug__" : Str)) = false := by decide)
    (he : starEach [e1, e2] X.env = (false, eval e1 X.env) :: starEach [e2] X.env := by rfl) (he2 : starEach [e2] X.env = (false, eval e2 X.env) :: starEach [] X.env := by rfl) (hpl : (backTo pos (starEach [e2] X.env)).any (·.1) = false := by rfl) : PM X Γ (.Call (.Name x p) [e1, e2] [] pos) (mOp f g1 g2) := by
  obtain ⟨ta, h1, h2⟩ := ha
  obtain ⟨tb, h3, h4⟩ := hb
  exact ⟨_, pe_callB hc hg hm hv (pa_cons h1 (pa_cons h3 pa_nil he2) he) hn hdb he hpl, so_cb2 hf h2 h4⟩
theorem qe_ix {r : R2} {f : Dt → Dt → Option Dt} (hr : L2.IxR X r) (hf : OpS Γ.K r f) (ha : PR X Γ e1 g1) (hb : PR X Γ e2 g2) (hs : PlainIx e2) : PM X Γ (.Subscript e1 e2 pos) (mOp f g1 g2) := by
  obtain ⟨ta, h1, h2⟩ := ha
  obtain ⟨tb, h3, h4⟩ := hb
  exact ⟨_, pe_ix hr h1 h3 hs, so_op hf h2 h4⟩
def mUn (f : Dt → Option Dt) (m : M Dt) : M Dt := fun δ => (m δ).bnd fun d δ1 => opt (f d) δ1
def negD : Dt → Option Dt
  | .int i => some (.int (-i))
  | _ => none
theorem qe_neg (ha : PM X Γ e m) : PM X Γ (.UnaryOp .USub e pos) (mUn negD m) := by
  obtain ⟨ta, h1, h2⟩ := ha
  refine ⟨_, pe_un un_neg h1, fun F δ G H σ Q at_ k => h2 F δ G H σ _ at_ ((OkR.bnd k).imp fun d δ1 G1 s1 k1 v H1 a1 r1 => ?_)⟩
  obtain ⟨z, e, k2⟩ := OkR.opt k1
  cases d with
  | int i => cases e; cases r1; exact ⟨i, rfl, k2 G1 (Same.refl _) _ H1 a1 (.int _)⟩
  | _ => cases e
/-! ### slices -/
def mPart : Option (M Dt) → M (Option Int)
  | none => fun δ => .ok none δ
  | some m => fun δ => (m δ).bnd fun d δ1 => match d with
    | .int i => .ok (some i) δ1
    | _ => .bad
def slD (d : Dt) (lo hi : Option Int) : Option Dt :=
  match d with
  | .lst ds => some (.lst (Pd.cutD ds lo hi))
  | .tup ds => some (.tup (Pd.cutD ds lo hi))
  | .str z => if z.length ≤ 100000 then some (.str (cutS z lo hi)) else none
  | .scr ns => some (.lst ((Pd.cutD ns lo hi).map Dt.int))
  | _ => none
def mSl (a : Rg) (lo hi : Option (M Dt)) : M Dt := fun δ => (a.run δ).bnd fun x δ1 => (mPart lo δ1).bnd fun l δ2 => (mPart hi δ2).bnd fun h δ3 => (opt (rv δ3 x) δ3).bnd fun d δ3 => opt (slD d l h) δ3
def SoO (Γ : Cn) (to : TO) (m : M (Option Int)) : Prop := ∀ F δ G H σ (Q : Option Int → Hp → Prop), At Γ F δ G H σ → OkR Γ F G (m δ) (fun o δ' G' => ∀ H', At Γ F δ' G' H' σ → Q o H') → to σ H Q
def PP (X : Cx) (Γ : Cn) (e : Option Expr) (m : Option (M Dt)) : Prop := ∃ to, PO X e to ∧ SoO Γ to (mPart m)
theorem qp_none : PP X Γ none none := ⟨_, po_none, fun F δ G H σ Q a k => k G (Same.refl _) H a⟩
theorem qp_some (h : PM X Γ e m) : PP X Γ (some e) (some m) := by
  obtain ⟨te, h1, h2⟩ := h
  refine ⟨_, po_some h1, fun F δ G H σ Q a k => h2 F δ G H σ _ a ((OkR.bnd k).imp fun d δ1 G1 s1 k1 v H1 a1 r1 => ?_)⟩
  cases d with
  | int i => cases r1; exact ⟨i, rfl, k1 G1 (Same.refl _) H1 a1⟩
  | _ => exact k1.elim
theorem sl_fin {G H : Hp} {v : V} {d z : Dt} {lo hi : Option Int} {Q : VK} (g : Good (W0 Γ.K) G H) (hv : Dv (W0 Γ.K) G H v d) (hz : slD d lo hi = some z) (k : ∀ u G' H', Fr (W0 Γ.K) G H G' H' → Same G' H' → Dr Γ.K G' u z → Q u H') : rSlAny Γ.K v lo hi H Q := by
  unfold slD at hz
  split at hz
  · cases hz
    obtain ⟨a, us, rfl, h1, r1⟩ := hv.lst g
    refine .inl (.inl ⟨a, us, rfl, SqL.of h1, fun q hq => ?_⟩)
    exact k _ (upd G q (.lst (cutV us lo hi))) _ (Fr.new g hq) (g.new hq).sub (.lst upd_same ((r1.cut lo hi).mono (same_new (g.gn hq))))
  · cases hz
    rename_i ds
    obtain ⟨a, us, rfl, h1, r1⟩ := hv.tup
    refine .inr ⟨a, us, rfl, sqT_mono g.sub h1, fun e => ?_, fun e q hq => ?_⟩
    · have z : Pd.cutD ds lo hi = ds := by
        unfold Pd.cutD
        rw [← r1.length, e.1, e.2, Nat.sub_zero, List.drop_zero, r1.length, List.take_length]
      rw [z] at k
      exact k _ G H (Fr.refl _ _ _) g.sub (.tup h1 r1)
    · exact k _ (upd G q (.tup (cutV us lo hi))) _ (Fr.new g hq) (g.new hq).sub (.tup (.inl (.inl upd_same)) ((r1.cut lo hi).mono (same_new (g.gn hq))))
  · split at hz
    · cases hz
      cases hv.str
      exact .inl (.inr ⟨_, rfl, Nat.le_trans (by assumption) (by decide), k _ G H (Fr.refl _ _ _) g.sub (.str _)⟩)
    · cases hz
  · cases hz
    rename_i ns
    rcases hv with d3 | ⟨a, xs, ds, h1, h2, _⟩
    · cases d3 with
      | @scr a _ h1 =>
        refine .inl (.inl ⟨a, ns.map V.int, rfl, g.sub.seq h1, fun q hq => ?_⟩)
        have ec : cutV (ns.map V.int) lo hi = (Pd.cutD ns lo hi).map V.int := by
          unfold cutV Pd.cutD
          rw [List.length_map, List.map_take, List.map_drop]
        rw [ec]
        exact k _ (upd G q (.lst ((Pd.cutD ns lo hi).map V.int))) _ (Fr.new g hq) (g.new hq).sub (.lst upd_same (drall_ints _))
    · cases h2
  · cases hz
theorem qe_sl {lo hi : Option Expr} {l h : Option (M Dt)} {p2 : Pos} (ha : PR X Γ e g) (hl : PP X Γ lo l) (hh : PP X Γ hi h) : PM X Γ (.Subscript e (.Slice lo hi none p2) pos) (mSl g l h) := by
  obtain ⟨ta, h1, h2⟩ := ha
  obtain ⟨tl, h3, h4⟩ := hl
  obtain ⟨th, h5, h6⟩ := hh
  refine ⟨_, pe_slice (slAnyK L.k) h1 h3 h5, fun F δ G H σ Q a k => h2 F δ G H σ _ a ((OkR.bnd k).imp fun x δ1 G1 s1 k1 v H1 a1 r1 => h4 F δ1 G1 H1 σ _ a1 ((OkR.bnd k1).imp fun lo δ2 G2 s2 k2 H2 a2 => h6 F δ2 G2 H2 σ _ a2 ((OkR.bnd k2).imp fun hi δ3 G3 s3 k3 H3 a3 => ?_)))⟩
  obtain ⟨d, e, k4⟩ := OkR.opt (OkR.bnd k3)
  obtain ⟨z, e2, k5⟩ := OkR.opt (k4 G3 (Same.refl _))
  exact sl_fin (good0 a3.sub) (((r1.mono s2).mono s3).dv a3 e) e2 fun u G' H' f' g' r' => k5 G' f'.g u H' (a3.step f' g') r'
/-! ### fields -/
def fldD (cs : List Addr) (f : Str) : Dt → Option Dt
  | .obj C fs => if cs.contains C = true then fs.lookup f else none
  | _ => none
def mFld (cs : List Addr) (f : Str) (m : M Dt) : M Dt := fun δ => (m δ).bnd fun d δ1 => opt (fldD cs f d) δ1
theorem qe_fld {f : Str} {cs : List Addr} (hc : ∀ C ∈ cs, Cls Γ.K C ∧ NoAttr Γ.K C f) (ha : PM X Γ e m) (hb : attributeBase e f X.env (eval e X.env) = eval e X.env := by rfl) : PM X Γ (.Attribute e f pos) (mFld cs f m) := by
  obtain ⟨ta, h1, h2⟩ := ha
  refine ⟨_, pe_fldK L.k h1 hb, fun F δ G H σ Q at_ k => h2 F δ G H σ _ at_ ((OkR.bnd k).imp fun d δ1 G1 s1 k1 v H1 a1 r1 => ?_)⟩
  obtain ⟨z, e, k2⟩ := OkR.opt k1
  cases d with
  | obj C fs =>
    unfold fldD at e
    simp only at e
    split at e
    · rename_i hC
      have hC : C ∈ cs := by simpa using hC
      cases r1 with
      | @obj a _ dx vs _ q1 q2 q3 =>
        obtain ⟨v, hv, rv⟩ := q3.look e
        exact ⟨a, C, dx, vs, v, rfl, a1.sub _ _ q1, (hc C hC).1, (hc C hC).2, hv, k2 G1 (Same.refl _) v H1 a1 rv⟩
    · cases e
  | _ => cases e
end

/-! ### targets -/
abbrev Tgt := Dt → List Sv → Res Unit
abbrev Tgts := List Dt → List Sv → Res Unit
def SoTg (Γ : Cn) (g : TG) (js : List Nat) (t : Tgt) : Prop := ∀ F δ G H σ v d (Q : L2.St → Hp → Prop), At Γ F δ G H σ → Dr Γ.K G v d → OkR Γ F G (t d δ) (fun _ δ' G' => ∀ σ' H', At Γ F δ' G' H' σ' → (∀ vs, (∀ j ∈ js, j ∈ vs) → wipe σ' vs = wipe σ vs) → Q σ' H') → g v σ H Q
def SoTs (Γ : Cn) (g : TGs) (js : List Nat) (t : Tgts) : Prop := ∀ F δ G H σ vs ds (Q : L2.St → Hp → Prop), At Γ F δ G H σ → DrAll Γ.K G vs ds → OkR Γ F G (t ds δ) (fun _ δ' G' => ∀ σ' H', At Γ F δ' G' H' σ' → (∀ vs, (∀ j ∈ js, j ∈ vs) → wipe σ' vs = wipe σ vs) → Q σ' H') → g vs σ H Q
def tgOf (Γ : Cn) (js : List Nat) (t : Tgt) : TG := fun v σ H Q => ∃ F δ G d, At Γ F δ G H σ ∧ Dr Γ.K G v d ∧ OkR Γ F G (t d δ) (fun _ δ' G' => ∀ σ' H', At Γ F δ' G' H' σ' → (∀ vs, (∀ j ∈ js, j ∈ vs) → wipe σ' vs = wipe σ vs) → Q σ' H')
def PTg (X : Cx) (Γ : Cn) (e : Expr) (js : List Nat) (t : Tgt) : Prop := ∃ g, PG X e g ∧ SoTg Γ g js t
def PTgs (X : Cx) (Γ : Cn) (es : List Expr) (js : List Nat) (t : Tgts) : Prop := ∃ g, PGs X es g ∧ SoTs Γ g js t
theorem so_tgOf {Γ : Cn} {js : List Nat} {t : Tgt} : SoTg Γ (tgOf Γ js t) js t := fun F δ G H σ v d Q a r k => ⟨F, δ, G, d, a, r, k⟩
theorem PTg.can {X : Cx} {Γ : Cn} {e : Expr} {js : List Nat} {t : Tgt} (h : PTg X Γ e js t) : PG X e (tgOf Γ js t) := by
  obtain ⟨g, h1, h2⟩ := h
  exact ⟨fun pins s σ H v u Q I r ⟨F, δ, G, d, a, rd, k⟩ => h1.run pins s σ H v u Q I r (h2 F δ G H σ v d Q a rd k)⟩
def tgN (i : Nat) : Tgt := fun d δ => .ok () (δ.set i (.dat d))
def tgNil : Tgts := fun ds δ => match ds with
  | [] => .ok () δ
  | _ => .bad
def tgCons (t : Tgt) (ts : Tgts) : Tgts := fun ds δ => match ds with
  | d :: ds => (t d δ).bnd fun _ δ1 => ts ds δ1
  | [] => .bad
def tgT (n : Nat) (ts : Tgts) : Tgt := fun d δ => match d with
  | .tup ds => if ds.length = n then ts ds δ else .bad
  | _ => .bad
section
variable {X : Cx} {Γ : Cn} {F : Fm} [L : Lk X Γ]
variable {e e1 e2 e3 : Expr} {pos p : Pos} {g g1 g2 g3 : Rg} {m m1 m2 m3 : M Dt} {b1 b2 : M Bool} {x : Str} {js ks : List Nat}
theorem qg_name {i : Nat} (hN : X.N.Nodup) (hi : X.N[i]? = some x) (hx : Loc X.env.scope x) (hp : i ∉ Γ.ps) (hf : X.fn x = true ∨ X.env.scope.names.lookup x = some .local := by first | exact .inl rfl | exact .inr rfl | assumption) : PTg X Γ (.Name x pos) [i] (tgN i) :=
  ⟨_, pg_name hN hi hx hf, fun F δ G H σ v d Q a r k => k G (Same.refl _) _ H (a.datSet r hp) fun vs hv => wipe_set σ _ (hv i List.mem_cons_self)⟩
theorem qg_nil : PTgs X Γ [] [] tgNil := ⟨_, pgs_nil, fun F δ G H σ vs ds Q a r k => by
  cases r with
  | nil => exact ⟨rfl, k G (Same.refl _) σ H a fun _ _ => rfl⟩
  | cons _ _ => exact k.elim⟩
theorem qg_cons {es : List Expr} {t : Tgt} {ts : Tgts} (h1 : PTg X Γ e js t) (h2 : PTgs X Γ es ks ts) (hs : (assignEach (e :: es) X.env).map (·.2) = assign e X.env :: (assignEach es X.env).map (·.2) := by rfl) : PTgs X Γ (e :: es) (js ++ ks) (tgCons t ts) := by
  obtain ⟨g1, q1, q2⟩ := h1
  obtain ⟨g2, q3, q4⟩ := h2
  refine ⟨_, pgs_cons q1 q3 hs, fun F δ G H σ vs ds Q a r k => ?_⟩
  cases r with
  | nil => exact k.elim
  | cons r1 r2 =>
    refine ⟨_, _, rfl, q2 F δ G H σ _ _ _ a r1 ((OkR.bnd k).imp fun _ δ1 G1 s1 k1 σ1 H1 a1 w1 => q4 F δ1 G1 H1 σ1 _ _ _ a1 (r2.mono s1) (k1.imp fun _ δ2 G2 s2 k2 σ2 H2 a2 w2 => k2 σ2 H2 a2 fun vs hv => ?_))⟩
    exact (w2 vs fun j hj => hv j (List.mem_append_right _ hj)).trans (w1 vs fun j hj => hv j (List.mem_append_left _ hj))
theorem qg_tup {es : List Expr} {k n : Nat} {ts : Tgts} (h : PTgs X Γ es js ts) (hn : (assignEach es X.env).length = n := by rfl) (hst : (assignEach es X.env).findIdx? (·.1) = none := by rfl) : PTg X Γ (.Tuple es k pos) js (tgT n ts) := by
  obtain ⟨g, q1, q2⟩ := h
  refine ⟨_, pg_tup L.calm q1 hn hst, fun F δ G H σ v d Q a r k => ?_⟩
  cases d with
  | tup ds =>
    obtain ⟨hl, k⟩ := if_ok k
    cases r with
    | tup h1 h2 =>
      rw [L.k]
      exact ⟨_, _, rfl, sqT_mono a.sub h1, by rw [h2.length]; exact hl, q2 F δ G H σ _ _ Q a h2 k⟩
  | _ => exact k.elim

/-! ### statements -/
variable {st : Stmt} {rest : List Stmt} {s1 s2 : M Fl}
def mSeq (a b : M Fl) : M Fl := fun δ => (a δ).bnd fun fl δ1 => match fl with
  | .nx => b δ1
  | fl => .ok fl δ1
def mNx : M Fl := fun δ => .ok .nx δ
theorem so_seq {ts tu : TS} (ha : SoS Γ ts s1) (hb : SoS Γ tu s2) : SoS Γ (tSeq ts tu) (mSeq s1 s2) := fun F δ G H σ D at_ k =>
  ha F δ G H σ _ at_ ((OkR.bnd k).imp fun fl δ1 G1 s1 k1 => by
    cases fl with
    | nx => exact fun σ1 H1 a1 => hb F δ1 G1 H1 σ1 D a1 k1
    | bk => exact k1 G1 (Same.refl _)
    | ct => exact k1 G1 (Same.refl _)
    | rt s => exact k1 G1 (Same.refl _))
theorem qss_nil : PQs X Γ [] mNx := ⟨_, pss_nil, fun F δ G H σ D a k => k G (Same.refl _) σ H a⟩
theorem qss_one (h : PQ X Γ st s1) : PQs X Γ [st] s1 := let ⟨_, h1, h2⟩ := h; ⟨_, pss_one h1, h2⟩
theorem qss_cons (h : PQ X Γ st s1) (hr : PQs X Γ rest s2) : PQs X Γ (st :: rest) (mSeq s1 s2) := let ⟨_, h1, h2⟩ := h; let ⟨_, h3, h4⟩ := hr; ⟨_, pss_cons h1 h3, so_seq h2 h4⟩
def mBad : M Fl := fun _ => .bad
theorem qs_never : PQ X Γ st mBad := ⟨_, ps_never, fun F δ G H σ D a k => k.elim⟩
theorem qs_pass : PQ X Γ (.Pass pos) mNx := ⟨_, ps_pass, fun F δ G H σ D a k => k G (Same.refl _) σ H a⟩
def mBk : M Fl := fun δ => .ok .bk δ
def mCt : M Fl := fun δ => .ok .ct δ
theorem qs_break : PQ X Γ (.Break pos) mBk := ⟨_, ps_break, fun F δ G H σ D a k => k G (Same.refl _) σ H a⟩
theorem qs_continue : PQ X Γ (.Continue pos) mCt := ⟨_, ps_continue, fun F δ G H σ D a k => k G (Same.refl _) σ H a⟩
def mRet (m : M Dt) : M Fl := fun δ => (m δ).bnd fun d δ1 => .ok (.rt (.dat d)) δ1
def mRetO (m : M Sv) : M Fl := fun δ => (m δ).bnd fun s δ1 => .ok (.rt s) δ1
def mRetN : M Fl := fun δ => .ok (.rt (.dat .non)) δ
theorem qs_ret (h : PM X Γ e m) : PQ X Γ (.Return (some e) pos) (mRet m) := by
  obtain ⟨te, h1, h2⟩ := h
  exact ⟨_, ps_ret h1, fun F δ G H σ D a k => h2 F δ G H σ _ a ((OkR.bnd k).imp fun d δ1 G1 s1 k1 v H1 a1 r1 => k1 G1 (Same.refl _) v σ H1 a1.nl (a1.pushD r1))⟩
theorem qs_retO {mv : M Sv} (h : PV X Γ e mv) : PQ X Γ (.Return (some e) pos) (mRetO mv) := by
  obtain ⟨te, h1, h2⟩ := h
  exact ⟨_, ps_ret h1, fun F δ G H σ D a k => h2 F δ G H σ _ a ((OkR.bnd k).imp fun d δ1 G1 s1 k1 v H1 a1 => k1 G1 (Same.refl _) v σ H1 (len_app a a1) a1)⟩
theorem qs_retN : PQ X Γ (.Return none pos) mRetN := ⟨_, ps_retN, fun F δ G H σ D a k => k G (Same.refl _) .non σ H a.nl (a.pushD .non)⟩
def mDrop (m : M Dt) : M Fl := fun δ => (m δ).bnd fun _ δ1 => .ok .nx δ1
theorem qs_expr (h : PM X Γ e m) (hs : swapsWith e none pos.line X.env = pure false := by rfl) : PQ X Γ (.Expr e pos) (mDrop m) := by
  obtain ⟨te, h1, h2⟩ := h
  exact ⟨_, ps_expr h1 hs, fun F δ G H σ D a k => h2 F δ G H σ _ a ((OkR.bnd k).imp fun d δ1 G1 s1 k1 v H1 a1 r1 => k1 G1 (Same.refl _) σ H1 a1)⟩
theorem qs_if {a b : List Stmt} (ht : PB X Γ e b1) (ha : PQs X Γ a s1) (hb : PQs X Γ b s2) : PQ X Γ (.If e a b pos) (mIf b1 s1 s2) := by
  obtain ⟨_, h1, h2⟩ := ht
  obtain ⟨_, h3, h4⟩ := ha
  obtain ⟨_, h5, h6⟩ := hb
  refine ⟨_, ps_if h1 h3 h5, fun F δ G H σ D a k => h2 F δ G H σ _ a ((OkR.bnd k).imp fun t δ1 G1 s1 k1 H1 a1 => ?_)⟩
  cases t with
  | true => rw [if_pos rfl] at k1 ⊢; exact h4 F δ1 G1 H1 σ D a1 k1
  | false => rw [if_neg (by decide)] at k1 ⊢; exact h6 F δ1 G1 H1 σ D a1 k1
def mAsg (i : Nat) (m : M Dt) : M Fl := fun δ => (m δ).bnd fun d δ1 => .ok .nx (δ1.set i (.dat d))
def mAsgO (i : Nat) (m : M Sv) : M Fl := fun δ => (m δ).bnd fun s δ1 => .ok .nx (δ1.set i s)
def mAsgT (t : Tgt) (m : M Dt) : M Fl := fun δ => (m δ).bnd fun d δ1 => (t d δ1).bnd fun _ δ2 => .ok .nx δ2
theorem so_asg {i : Nat} {te : TE} (hp : i ∉ Γ.ps) (h : SoE Γ te m) : SoS Γ (tAsg te (gName i)) (mAsg i m) := fun F δ G H σ D a k =>
  h F δ G H σ _ a ((OkR.bnd k).imp fun d δ1 G1 s1 k1 v H1 a1 r1 => k1 G1 (Same.refl _) _ H1 (a1.datSet r1 hp))
theorem so_asgO {i : Nat} {te : TE} {mv : M Sv} (hp : i ∉ Γ.ps) (h : SoV Γ te mv) : SoS Γ (tAsg te (gName i)) (mAsgO i mv) := fun F δ G H σ D a k =>
  h F δ G H σ _ a ((OkR.bnd k).imp fun d δ1 G1 s1 k1 v H1 a1 => k1 G1 (Same.refl _) _ H1 (a1.move hp (len_app a a1)))
theorem qs_set {i : Nat} {p' : Pos} (hN : X.N.Nodup) (hi : X.N[i]? = some x) (hx : Loc X.env.scope x) (hp : i ∉ Γ.ps) (h : PM X Γ e m) (hs : swapsWith e (some (.Name x p')) pos.line X.env = pure false := by rfl) (hf : X.fn x = true ∨ X.env.scope.names.lookup x = some .local := by first | exact .inl rfl | exact .inr rfl | assumption) :
    PQ X Γ (.Assign [.Name x p'] e pos) (mAsg i m) := let ⟨_, h1, h2⟩ := h; ⟨_, ps_set hN hi hx h1 hs hf, so_asg hp h2⟩
theorem qs_setO {i : Nat} {p' : Pos} {mv : M Sv} (hN : X.N.Nodup) (hi : X.N[i]? = some x) (hx : Loc X.env.scope x) (hp : i ∉ Γ.ps) (h : PV X Γ e mv) (hs : swapsWith e (some (.Name x p')) pos.line X.env = pure false := by rfl) (hf : X.fn x = true ∨ X.env.scope.names.lookup x = some .local := by first | exact .inl rfl | exact .inr rfl | assumption) :
    PQ X Γ (.Assign [.Name x p'] e pos) (mAsgO i mv) := let ⟨_, h1, h2⟩ := h; ⟨_, ps_set hN hi hx h1 hs hf, so_asgO hp h2⟩
theorem qs_asg {tg : Expr} {t : Tgt} (h : PM X Γ e m) (hg : PTg X Γ tg js t) (hs : swapsWithSole [tg] e pos.line X.env = pure false := by rfl) (hw : swappedStores [tg] e X.env = pure none := by rfl) (h1 : (assignEach [tg] X.env).map (·.2) = [assign tg X.env] := by rfl) :
    PQ X Γ (.Assign [tg] e pos) (mAsgT t m) := by
  obtain ⟨_, q1, q2⟩ := h
  obtain ⟨_, q3, q4⟩ := hg
  exact ⟨_, ps_asg q1 q3 hs hw h1, fun F δ G H σ D a k => q2 F δ G H σ _ a ((OkR.bnd k).imp fun d δ1 G1 s1 k1 v H1 a1 r1 => q4 F δ1 G1 H1 σ v d _ a1 r1 ((OkR.bnd k1).imp fun _ δ2 G2 s2 k2 σ2 H2 a2 _ => k2 G2 (Same.refl _) σ2 H2 a2))⟩
end
end Qm

set_option Elab.async false
set_option linter.all false
set_option maxRecDepth 100000
set_option maxHeartbeats 2000000
namespace Qm
open PySem PySem.Spec PyProof.Rows L2 Pd

/-! ### a value is held while something else runs -/
section
variable {Γ : Cn} {F : Fm} {δ : List Sv} {G H : Hp} {σ : L2.St} {s : Sv} {v : V}
theorem At.hold (a : At Γ F (δ ++ [s]) G H (σ ++ [some v])) (hn : Γ.n ≤ δ.length) : ∃ F', At Γ F' δ G H σ ∧ (∀ δ' G' H' σ', At Γ F' δ' G' H' σ' → At Γ F δ' G' H' σ') ∧ ∀ δ' G' H' σ', At Γ F' δ' G' H' σ' → At Γ F (δ' ++ [s]) G' H' (σ' ++ [some v]) := by
  obtain ⟨fp, h1, h2, h3, h4⟩ := a.own
  have len : σ.length = δ.length := by simpa using a.len
  have a0 := a.pop hn
  let M : Addr → Prop := fun b => ∃ i, i < δ.length ∧ b ∈ fp i
  have ownI : ∀ i s, δ[i]? = some s → Own Γ.K G H σ[i]?.join (fp i) s := fun i t ht => by
    have hil := (List.getElem?_eq_some_iff.mp ht).1
    have := h1 i t (by rw [List.getElem?_append_left hil]; exact ht)
    rw [List.getElem?_append_left (by rw [len]; exact hil)] at this
    exact this
  have ownS : Own Γ.K G H (some v) (fp δ.length) s := by
    have := h1 δ.length s (by rw [get_app, if_neg (by omega), if_pos rfl])
    rw [get_app, len, if_neg (by omega), if_pos rfl] at this
    exact this
  have hM : ∀ b, M b → H b ≠ none ∧ G b = none ∧ (F.H0 b = none ∨ F.M b) := fun b ⟨i, hi, hb⟩ => ⟨(ownI i _ (List.getElem?_eq_getElem hi)).live hb, h4 i b hb⟩
  have at0 : At Γ ⟨G, H, M⟩ δ G H σ := by
    refine ⟨a.sub, Same.refl G, fun b u e g m => ⟨g, e⟩, fun b h => h, len, hn, a0.pin, fun i => if i < δ.length then fp i else [], fun i t ht => ?_, fun i hi => if_neg (by omega), fun i j b hi hj => ?_, fun i b hb => ?_⟩
    · simp only [if_pos (List.getElem?_eq_some_iff.mp ht).1]
      exact ownI i t ht
    · simp only at hi hj
      split at hi
      · split at hj
        · exact h3 i j b hi hj
        · cases hj
      · cases hi
    · simp only at hb
      split at hb
      · rename_i hi
        exact ⟨(h4 i b hb).1, .inr ⟨i, hi, hb⟩⟩
      · cases hb
  refine ⟨⟨G, H, M⟩, at0, fun δ' G' H' σ' a' => a0.rebase hM a', fun δ' G' H' σ' a' => ?_⟩
  have b0 := a0.rebase hM a'
  obtain ⟨fq, k1, k2, k3, k4⟩ := a'.own
  have nM : ∀ b ∈ fp δ.length, ¬ M b := fun b hb ⟨i, hi, hb'⟩ => by
    have := h3 i δ.length b hb' hb
    omega
  have stay : ∀ b ∈ fp δ.length, G' b = none ∧ H' b = H b := fun b hb => by
    cases q : H b with
    | none => exact absurd q (ownS.live hb)
    | some u => exact a'.fr b u q (h4 _ b hb).1 (nM b hb)
  obtain ⟨fr, q1, q2, q3, q4⟩ := b0.own
  refine ⟨b0.sub, b0.g0, b0.fr, b0.live, by simp [a'.len], Nat.le_trans b0.nl (by simp), fun i hi => ?_, fun i => if i = δ'.length then fp δ.length else fq i, fun i t ht => ?_, fun i hi => ?_, fun i j b hi hj => ?_, fun i b hb => ?_⟩
  · have := b0.pin i hi
    rw [List.getElem?_append_left (List.getElem?_eq_some_iff.mp this).1]
    exact this
  · rw [get_app] at ht
    by_cases q : i < δ'.length
    · rw [if_pos q] at ht
      simp only [if_neg (show ¬ i = δ'.length by omega)]
      rw [List.getElem?_append_left (by rw [a'.len]; exact q)]
      exact k1 i t ht
    · rw [if_neg q] at ht
      by_cases q2 : i = δ'.length
      · rw [if_pos q2] at ht
        cases ht
        rw [get_app, a'.len, if_neg q, if_pos q2]
        simp only [if_pos q2]
        exact ownS.mono a'.g0 fun b hb => (stay b hb).2
      · rw [if_neg q2] at ht
        cases ht
  · rw [List.length_append, List.length_singleton] at hi
    simp only [if_neg (show ¬ i = δ'.length by omega)]
    exact k2 i (by omega)
  · have dj : ∀ i, b ∈ fq i → b ∈ fp δ.length → False := fun i h5 h6 => by
      rcases (k4 i b h5).2 with z | z
      · exact ownS.live h6 z
      · exact nM b h6 z
    simp only at hi hj
    by_cases q : i = δ'.length
    · rw [if_pos q] at hi
      by_cases q2 : j = δ'.length
      · omega
      · rw [if_neg q2] at hj
        exact (dj j hj hi).elim
    · rw [if_neg q] at hi
      by_cases q2 : j = δ'.length
      · rw [if_pos q2] at hj
        exact (dj i hi hj).elim
      · rw [if_neg q2] at hj
        exact k3 i j b hi hj
  · simp only at hb
    by_cases q : i = δ'.length
    · rw [if_pos q] at hb
      exact ⟨(stay b hb).1, (h4 _ b hb).2⟩
    · rw [if_neg q] at hb
      obtain ⟨z1, z2⟩ := k4 i b hb
      refine ⟨z1, ?_⟩
      rcases z2 with z2 | z2
      · exact .inl (a0.h0 z2)
      · exact (hM b z2).2.2
theorem OkR.frame {α : Type} {F' : Fm} {r : Res α} {k k' : α → List Sv → Hp → Prop} (h : OkR Γ F G r k) (hf : ∀ δ' G' H' σ', At Γ F' δ' G' H' σ' → At Γ F δ' G' H' σ') (f : ∀ a δ' G', Same G G' → k a δ' G' → k' a δ' G') : OkR Γ F' G r k' := by
  cases r with
  | ok a δ => exact fun G2 s2 => f a δ G2 s2 (h G2 s2)
  | exc x δ => exact fun c e σ' G' H' s a => h c e σ' G' H' s (hf _ _ _ _ a)
  | bad => exact h
/-- wiped slots -/
def wipeS (δ : List Sv) : List Nat → List Sv
  | [] => δ
  | v :: vs => (wipeS δ vs).set v .un
def restS (δ' δ : List Sv) : List Nat → List Sv
  | [] => δ'
  | v :: vs => (restS δ' δ vs).set v (δ.getD v .un)
def Sv.light : Sv → Bool
  | .un => true
  | .dat _ => true
  | _ => false
def lightS (δ : List Sv) (vs : List Nat) : Bool := vs.all fun v => (δ.getD v .un).light
theorem At.un (a : At Γ F δ G H σ) {i : Nat} (hp : i ∉ Γ.ps) : At Γ F (δ.set i .un) G H (σ.set i none) := by
  obtain ⟨fp, h1, h2, h3, h4⟩ := a.own
  refine ⟨a.sub, a.g0, a.fr, a.live, by rw [List.length_set, List.length_set]; exact a.len, by rw [List.length_set]; exact a.nl, fun j hj => ?_, fun j => if j = i then [] else fp j, fun j t ht => ?_, fun j hj => ?_, fun j k b hj hk => ?_, fun j b hb => ?_⟩
  · rw [set_get, if_neg (fun z : i = j => hp (z ▸ hj))]
    exact a.pin j hj
  · rw [set_get] at ht
    by_cases q : i = j
    · subst q
      rw [if_pos rfl] at ht
      split at ht
      · cases ht; simp only [if_pos]; exact rfl
      · cases ht
    · rw [if_neg q] at ht
      rw [set_get, if_neg q]
      simp only [if_neg (fun z : j = i => q z.symm)]
      exact h1 j t ht
  · rw [List.length_set] at hj
    by_cases q : j = i
    · simp only [if_pos q]
    · simp only [if_neg q]
      exact h2 j hj
  · simp only at hj hk
    split at hj
    · cases hj
    · split at hk
      · cases hk
      · exact h3 j k b hj hk
  · simp only at hb
    split at hb
    · cases hb
    · exact h4 j b hb
theorem At.wipe (a : At Γ F δ G H σ) : ∀ {vs : List Nat}, (∀ v ∈ vs, v ∉ Γ.ps) → At Γ F (wipeS δ vs) G H (L2.wipe σ vs)
  | [], _ => a
  | v :: vs, h => (At.wipe a fun u hu => h u (List.mem_cons_of_mem _ hu)).un (h v List.mem_cons_self)
theorem wipeS_len : ∀ (vs : List Nat), (wipeS δ vs).length = δ.length
  | [] => rfl
  | v :: vs => by unfold wipeS; rw [List.length_set, wipeS_len vs]
theorem wipe_at : ∀ {σ : L2.St} {vs : List Nat} {i : Nat}, i ∉ vs → (L2.wipe σ vs)[i]? = σ[i]? := fun {σ vs i} h => by rw [wipe_get, if_neg h]
theorem restS_len {δ' : List Sv} : ∀ (vs : List Nat), (restS δ' δ vs).length = δ'.length
  | [] => rfl
  | v :: vs => by unfold restS; rw [List.length_set, restS_len vs]
theorem restS_get {δ' : List Sv} : ∀ (vs : List Nat) (i : Nat), (restS δ' δ vs)[i]? = if i ∈ vs then (if i < δ'.length then some (δ.getD i .un) else none) else δ'[i]?
  | [], i => by simp [restS]
  | v :: vs, i => by
    unfold restS
    rw [set_get, restS_len, restS_get vs i]
    by_cases h : v = i
    · subst h
      rw [if_pos rfl, if_pos List.mem_cons_self]
    · rw [if_neg h]
      have : (i ∈ v :: vs) ↔ i ∈ vs := by
        rw [List.mem_cons]
        exact ⟨fun q => q.resolve_left (fun z => h z.symm), .inr⟩
      by_cases h3 : i ∈ vs
      · rw [if_pos h3, if_pos (this.mpr h3)]
      · rw [if_neg h3, if_neg (fun z => h3 (this.mp z))]
/-- back to the slots that were -/
theorem At.restore {δ1 : List Sv} {σ1 : L2.St} {G1 H1 : Hp} {F0 : Fm} {vs : List Nat} (a0 : At Γ F0 δ G H σ) (sG : Same G G1) (hp : ∀ v ∈ vs, v ∉ Γ.ps) (hL : lightS δ vs = true) (hw : ∀ i, i ∉ vs → σ1[i]? = σ[i]?) (hlen : σ1.length = σ.length)
    (a1 : At Γ F δ1 G1 H1 σ1) : At Γ F (restS δ1 δ vs) G1 H1 σ := by
  obtain ⟨fp, h1, h2, h3, h4⟩ := a1.own
  have l1 : δ1.length = δ.length := by rw [← a1.len, hlen, a0.len]
  refine ⟨a1.sub, a1.g0, a1.fr, a1.live, by rw [restS_len, l1]; exact a0.len, by rw [restS_len]; exact a1.nl, a0.pin, fun i => if i ∈ vs then [] else fp i, fun i t ht => ?_, fun i hi => ?_, fun i j b hi hj => ?_, fun i b hb => ?_⟩
  · rw [restS_get] at ht
    by_cases q : i ∈ vs
    · rw [if_pos q] at ht
      split at ht
      · rename_i hil
        cases ht
        simp only [if_pos q]
        have hl : (δ.getD i .un).light = true := by
          unfold lightS at hL
          exact List.all_eq_true.mp hL i q
        have e : δ[i]? = some (δ.getD i .un) := by rw [List.getD_eq_getElem?_getD, List.getElem?_eq_getElem (by omega)]; rfl
        cases z : δ.getD i .un with
        | un => exact rfl
        | dat d =>
          rw [z] at e
          obtain ⟨u, k1, k2⟩ := a0.dat e
          rw [k1]
          exact ⟨rfl, u, rfl, k2.mono sG⟩
        | lst ds => rw [z] at hl; cases hl
        | dic ds => rw [z] at hl; cases hl
        | ins C fs => rw [z] at hl; cases hl
      · cases ht
    · rw [if_neg q] at ht
      simp only [if_neg q]
      rw [← hw i q]
      exact h1 i t ht
  · rw [restS_len] at hi
    by_cases q : i ∈ vs
    · simp only [if_pos q]
    · simp only [if_neg q]
      exact h2 i hi
  · simp only at hi hj
    split at hi
    · cases hi
    · split at hj
      · cases hj
      · exact h3 i j b hi hj
  · simp only at hb
    split at hb
    · cases hb
    · exact h4 i b hb
end

/-! ### what is walked -/
def SoI (Γ : Cn) (wi : TI) (m : M (List Dt)) : Prop := ∀ F δ G H σ (R : It → Hp → Prop), At Γ F δ G H σ → OkR Γ F G (m δ) (fun ds δ' G' => ∀ J H', At Γ F δ' G' H' σ → Wk (W0 Γ.K) J ds G' → R J H') → wi σ H R
def PIt (X : Cx) (Γ : Cn) (tg iter : Expr) (m : M (List Dt)) : Prop := ∃ wi, PI X tg iter wi ∧ SoI Γ wi m
theorem _root_.L2.PI.or {X : Cx} {tg iter : Expr} {w1 w2 : TI} (h1 : PI X tg iter w1) (h2 : PI X tg iter w2) : PI X tg iter fun σ H R => w1 σ H R ∨ w2 σ H R :=
  ⟨fun pins s σ H R I h => h.elim (h1.run pins s σ H R I) (h2.run pins s σ H R I)⟩
section
variable {X : Cx} {Γ : Cn} {F : Fm} [L : Lk X Γ]
variable {e e1 e2 tg iter : Expr} {pos p : Pos} {g g1 g2 : Rg} {m m1 m2 : M Dt} {b1 : M Bool} {x : Str} {js ks : List Nat} {s1 s2 : M Fl}
def seqD : Dt → Option (List Dt)
  | .lst ds => some ds
  | .tup ds => some ds
  | .str z => some (Pd.signs z)
  | .scr ns => some (ns.map Dt.int)
  | _ => none
def mIter (m : M Dt) : M (List Dt) := fun δ => (m δ).bnd fun d δ1 => opt (seqD d) δ1
theorem wk_list {K : PySem.W.Frag} {G G1 : Hp} {a : Addr} {xs : List V} {ds : List Dt} (h1 : ∀ H, Same G H → SqL K H a xs) (h2 : DrAll K G xs ds) : Wk (W0 K) (Itl K a) ds G := by
  have w := walk_list (K := K) (a := a) (xs := xs)
  rw [h2.length] at w
  refine w.mono h1 fun i H x H' hi q y => ?_
  obtain ⟨e, y⟩ := y
  subst e
  intro G2 e2 g2
  obtain ⟨d, hd, r⟩ := h2.get y
  exact ⟨G2, d, hd, Fr.refl _ _ _, g2, r.mono e2⟩
theorem wk_tup {K : PySem.W.Frag} {G : Hp} {a : Addr} {xs : List V} {ds : List Dt} (h1 : SqT K G a xs) (h2 : DrAll K G xs ds) : Wk (W0 K) (Itt K a) ds G := by
  have w := walk_tup (K := K) (a := a) (xs := xs)
  rw [h2.length] at w
  refine w.mono (fun H q => sqT_mono q h1) fun i H x H' hi q y => ?_
  obtain ⟨e, y⟩ := y
  subst e
  intro G2 e2 g2
  obtain ⟨d, hd, r⟩ := h2.get y
  exact ⟨G2, d, hd, Fr.refl _ _ _, g2, r.mono e2⟩
theorem wk_str {W : Wo} {G : Hp} {z : Str} : Wk W (Its z) (Pd.signs z) G := by
  have w := walk_str (z := z)
  unfold Wk
  rw [show (Pd.signs z).length = z.cps.size by simp [Pd.signs]]
  refine w.mono (fun _ _ => trivial) fun i H x H' hi q y => ?_
  obtain ⟨e, c, hc, y⟩ := y
  subst e
  subst y
  intro G2 e2 g2
  refine ⟨G2, .str ⟨#[c]⟩, ?_, Fr.refl _ _ _, g2, .str _⟩
  unfold Pd.signs
  rw [List.getElem?_map, Array.getElem?_toList, hc]
  rfl
theorem qi_seq (h : PM X Γ e m) : PIt X Γ tg e (mIter m) := by
  obtain ⟨te, h1, h2⟩ := h
  refine ⟨_, ((pi_listK h1 L.k).or (pi_tupK h1 L.k)).or (pi_str h1), fun F δ G H σ R a k => ?_⟩
  -- which of the three is told by the datum
  cases hm : m δ with
  | bad => unfold mIter at k; rw [hm] at k; exact k.elim
  | exc x δ' =>
    unfold mIter at k
    rw [hm] at k
    refine .inl (.inl (h2 F δ G H σ _ a ?_))
    rw [hm]
    exact k
  | ok d δ' =>
    have k' := k
    unfold mIter at k'
    rw [hm, bnd_ok] at k'
    obtain ⟨ds, e, k2⟩ := OkR.opt k'
    cases d with
    | lst es =>
      cases e
      refine .inl (.inl (h2 F δ G H σ _ a ?_))
      rw [hm]
      intro G1 s1 v H1 a1 r1
      cases r1 with
      | @lst b xs _ q1 q2 => exact ⟨b, rfl, ⟨_, SqL.of (a1.sub _ _ q1)⟩, k2 G1 s1 _ H1 a1 (wk_list (G1 := G1) (fun H q => SqL.of (q _ _ q1)) q2)⟩
    | tup es =>
      cases e
      refine .inl (.inr (h2 F δ G H σ _ a ?_))
      rw [hm]
      intro G1 s1 v H1 a1 r1
      cases r1 with
      | @tup b xs _ q1 q2 => exact ⟨b, rfl, ⟨_, sqT_mono a1.sub q1⟩, k2 G1 s1 _ H1 a1 (wk_tup q1 q2)⟩
    | str z =>
      cases e
      refine .inr (h2 F δ G H σ _ a ?_)
      rw [hm]
      intro G1 s1 v H1 a1 r1
      cases r1
      exact ⟨z, rfl, k2 G1 s1 _ H1 a1 wk_str⟩
    | scr ns =>
      cases e
      refine .inl (.inl (h2 F δ G H σ _ a ?_))
      rw [hm]
      intro G1 s1 v H1 a1 r1
      cases r1 with
      | @scr b _ q1 => exact ⟨b, rfl, ⟨_, a1.sub.seq q1⟩, k2 G1 s1 _ H1 a1 (wk_list (G1 := G1) (fun H q => q.seq q1) (drall_ints ns))⟩
    | _ => cases e
def mRng1 (m : M Dt) : M (List Dt) := fun δ => (m δ).bnd fun d δ1 => match d with
  | .int j => if -(2 ^ 62) ≤ j ∧ j < 2 ^ 62 then .ok (upto 0 j.toNat) δ1 else .bad
  | _ => .bad
def mRng2 (m1 m2 : M Dt) : M (List Dt) := fun δ => (m1 δ).bnd fun d δ1 => (m2 δ1).bnd fun d2 δ2 => match d, d2 with
  | .int i, .int j => if (-(2 ^ 62) ≤ i ∧ i < 2 ^ 62) ∧ -(2 ^ 62) ≤ j ∧ j < 2 ^ 62 then .ok (upto i (j - i).toNat) δ2 else .bad
  | _, _ => .bad
theorem qi_rng1 (hg : Gl X "range") (hm : X.mg "range" = none) (h : PM X Γ e m) (hs : starEach [e] X.env = (false, eval e X.env) :: starEach [] X.env := by rfl) : PIt X Γ tg (.Call (.Name "range" p) [e] [] pos) (mRng1 m) := by
  obtain ⟨te, h1, h2⟩ := h
  refine ⟨_, pi_range1 hg hm (pa_cons h1 pa_nil hs) (hs.trans rfl), fun F δ G H σ R a k => h2 F δ G H σ _ a ((OkR.bnd k).imp fun d δ1 G1 s1 k1 v H1 a1 r1 => ?_)⟩
  cases d with
  | int j =>
    cases r1
    obtain ⟨⟨q1, q2⟩, k1⟩ := if_ok k1
    exact ⟨j, rfl, q1, q2, k1 G1 (Same.refl _) _ H1 a1 wk_range⟩
  | _ => exact k1.elim
theorem qi_rng2 (hg : Gl X "range") (hm : X.mg "range" = none) (h : PM X Γ e1 m1) (h' : PM X Γ e2 m2) (hs : starEach [e1, e2] X.env = (false, eval e1 X.env) :: starEach [e2] X.env := by rfl) (hs2 : starEach [e2] X.env = (false, eval e2 X.env) :: starEach [] X.env := by rfl) :
    PIt X Γ tg (.Call (.Name "range" p) [e1, e2] [] pos) (mRng2 m1 m2) := by
  obtain ⟨te, h1, h2⟩ := h
  obtain ⟨te2, h3, h4⟩ := h'
  refine ⟨_, pi_range2 hg hm (pa_cons h1 (pa_cons h3 pa_nil hs2) hs) (hs.trans (by rw [hs2]; rfl)) (hs2.trans rfl), fun F δ G H σ R a k => h2 F δ G H σ _ a ((OkR.bnd k).imp fun d δ1 G1 s1 k1 v H1 a1 r1 => h4 F δ1 G1 H1 σ _ a1 ((OkR.bnd k1).imp fun d2 δ2 G2 s2 k2 w H2 a2 r2 => ?_))⟩
  cases d with
  | int i =>
    cases d2 with
    | int j =>
      cases r1
      cases r2
      obtain ⟨⟨⟨q1, q2⟩, q3, q4⟩, k2⟩ := if_ok k2
      exact ⟨i, j, rfl, ⟨q1, q2, q3, q4⟩, k2 G2 (Same.refl _) _ H2 a2 wk_range⟩
    | _ => exact k2.elim
  | _ => exact k2.elim

/-! ### loops -/
def forL (t : Tgt) (b : M Fl) : List Dt → M Fl
  | [] => fun δ => .ok .nx δ
  | d :: ds => fun δ => (t d δ).bnd fun _ δ1 => (b δ1).bnd fun fl δ2 => match fl with
    | .nx => forL t b ds δ2
    | .ct => forL t b ds δ2
    | .bk => .ok .nx δ2
    | .rt s => .ok (.rt s) δ2
def mFor (it : M (List Dt)) (t : Tgt) (b : M Fl) : M Fl := fun δ => (it δ).bnd fun ds δ1 => forL t b ds δ1
theorem so_for {wi : TI} {gt : TG} {ts : TS} {t : Tgt} {it : M (List Dt)} (hi : SoI Γ wi it) (ht : SoTg Γ gt js t) (hb : SoS Γ ts s1) : SoS Γ (tFor wi gt ts) (mFor it t s1) := fun F δ G H σ D at_ k =>
  hi F δ G H σ _ at_ ((OkR.bnd k).imp fun ds δ1 G1 s1 k1 J H1 a1 w => by
    refine for_it w (fun i σ' H' => ∃ δ' G', Same G1 G' ∧ At Γ F δ' G' H' σ' ∧ OkR Γ F G' (forL t _ (ds.drop i) δ') (EndOk Γ F D)) ⟨δ1, G1, Same.refl _, a1, k1⟩ (fun i σ' H' _ ⟨δ', G', e, a, _⟩ => e.trans a.sub) ?_ ?_
    · rintro i v σ' H' H2 hil ⟨δ', G', e, a, hI⟩ y
      obtain ⟨G2, d, hd, f2, g2, r⟩ := y G' e (good0 a.sub)
      rw [List.drop_eq_getElem_cons hil, show ds[i] = d from by rw [List.getElem?_eq_getElem hil] at hd; exact Option.some.inj hd] at hI
      refine ht F δ' G2 H2 σ' v d _ (a.step f2 g2.sub) r ((OkR.bnd (hI.mono f2.g)).imp fun _ δ3 G3 s3 k3 σ3 H3 a3 _ => ?_)
      refine hb F δ3 G3 H3 σ3 _ a3 ((OkR.bnd k3).imp fun fl δ4 G4 s4 k4 => ?_)
      have sG : Same G1 G4 := ((e.trans f2.g).trans s3).trans s4
      cases fl with
      | nx => exact fun σ5 H5 a5 => ⟨δ4, G4, sG, a5, k4⟩
      | ct => exact fun σ5 H5 a5 => ⟨δ4, G4, sG, a5, k4⟩
      | bk => exact k4 G4 (Same.refl _)
      | rt s => exact k4 G4 (Same.refl _)
    · rintro σ' H' ⟨δ', G', e, a, hI⟩
      rw [List.drop_length] at hI
      exact hI G' (Same.refl _) σ' H' a)
theorem qs_for {body : List Stmt} {t : Tgt} {it : M (List Dt)} (hp : PassesOwn (model X.prog X.w) X.A X.env X.xe) (hi : PIt X Γ tg iter it) (hg : PTg X Γ tg js t) (hb : PQs X Γ body s1) (hs : ∀ x, foldedSetIterable iter X.env x = pure x := by intro _; rfl) : PQ X Γ (.For tg iter body [] pos) (mFor it t s1) := by
  obtain ⟨_, h1, h2⟩ := hi
  obtain ⟨_, h3, h4⟩ := hg
  obtain ⟨_, h5, h6⟩ := hb
  exact ⟨_, ps_for hp L.calm h1 h3 h5 hs, so_for h2 h4 h6⟩
/-- at most n turns -/
def whL (c : M Bool) (b : M Fl) : Nat → M Fl
  | 0 => fun _ => .bad
  | n + 1 => fun δ => (c δ).bnd fun t δ1 => if t = true then (b δ1).bnd fun fl δ2 => (match fl with
    | .nx => whL c b n δ2
    | .ct => whL c b n δ2
    | .bk => .ok .nx δ2
    | .rt s => .ok (.rt s) δ2) else .ok .nx δ1
theorem so_while {n : Nat} {tt : TT} {ts : TS} (hc : SoT Γ tt b1) (hb : SoS Γ ts s1) : SoS Γ (tWhile tt ts) (whL b1 s1 n) := fun F δ G H σ D at_ k => by
  refine ⟨fun m σ' H' => ∃ δ' G', At Γ F δ' G' H' σ' ∧ OkR Γ F G' (whL b1 s1 m δ') (EndOk Γ F D), ⟨n, δ, G, at_, k⟩, ?_⟩
  rintro m σ' H' ⟨δ', G', a, hI⟩
  cases m with
  | zero => exact hI.elim
  | succ m =>
    refine hc F δ' G' H' σ' _ a ((OkR.bnd hI).imp fun t δ1 G1 s1 k1 H1 a1 => ?_)
    cases t with
    | false => exact k1 G1 (Same.refl _) σ' H1 a1
    | true =>
      rw [if_pos rfl] at k1 ⊢
      refine ⟨fun σ2 H2 => ∃ δ2 G2, At Γ F δ2 G2 H2 σ2 ∧ OkR Γ F G2 (whL b1 _ m δ2) (EndOk Γ F D), fun σ2 H2 q => ⟨m, Nat.lt_succ_self m, q⟩, ?_⟩
      refine hb F δ1 G1 H1 σ' _ a1 ((OkR.bnd k1).imp fun fl δ2 G2 s2 k2 => ?_)
      cases fl with
      | nx => exact fun σ5 H5 a5 => ⟨δ2, G2, a5, k2⟩
      | ct => exact fun σ5 H5 a5 => ⟨δ2, G2, a5, k2⟩
      | bk => exact k2 G2 (Same.refl _)
      | rt s => exact k2 G2 (Same.refl _)
theorem qs_while {body : List Stmt} {n : Nat} (hp : PassesOwn (model X.prog X.w) X.A X.env X.xe) (hc : PB X Γ e b1) (hb : PQs X Γ body s1) : PQ X Γ (.While e body [] pos) (whL b1 s1 n) := by
  obtain ⟨_, h1, h2⟩ := hc
  obtain ⟨_, h3, h4⟩ := hb
  exact ⟨_, ps_while hp h1 h3, so_while h2 h4⟩
end
end Qm

set_option Elab.async false
set_option linter.all false
set_option maxRecDepth 100000
set_option maxHeartbeats 2000000
namespace Qm
open PySem PySem.Spec PyProof.Rows L2 Pd

/-! ### comprehensions -/
def noX {α : Type} (r : Res α) : Res α := match r with
  | .exc _ _ => .bad
  | r => r
@[simp] theorem noX_ok {α : Type} {a : α} {δ : List Sv} : noX (.ok a δ) = .ok a δ := rfl
@[simp] theorem noX_bad {α : Type} : noX (.bad : Res α) = .bad := rfl
def lcL (vs : List Nat) (t : Tgt) (c : M Bool) (el : M Dt) : List Dt → M (List Dt)
  | [] => fun δ => .ok [] δ
  | d :: ds => fun δ => (noX (t d (wipeS δ vs))).bnd fun _ δ1 => (noX (c δ1)).bnd fun b δ2 =>
    if b = true then (noX (el δ2)).bnd fun y δ3 => (lcL vs t c el ds (restS δ3 δ vs)).bnd fun ys δ4 => .ok (y :: ys) δ4 else lcL vs t c el ds (restS δ2 δ vs)
/-- the comprehension's list -/
def mLc (it : M (List Dt)) (vs : List Nat) (t : Tgt) (c : M Bool) (el : M Dt) : M (List Dt) := fun δ => (it δ).bnd fun ds δ1 => if ds.length ≤ 100000 ∧ lightS δ1 vs = true then lcL vs t c el ds δ1 else .bad
def mLcD (l : M (List Dt)) : M Dt := fun δ => (l δ).bnd fun ds δ1 => .ok (.lst ds) δ1
def mLcO (l : M (List Dt)) : M Sv := fun δ => (l δ).bnd fun ds δ1 => .ok (.lst ds) δ1
def mYes : M Bool := fun δ => .ok true δ
section
variable {Γ : Cn} {F : Fm} {G : Hp}
/-- nothing is wanted of an exception -/
def Cn.nox (Γ : Cn) : Cn := { Γ with Wx := fun _ _ _ _ => False }
theorem At.nox {δ : List Sv} {H : Hp} {σ : L2.St} (a : At Γ F δ G H σ) : At Γ.nox F δ G H σ := ⟨a.sub, a.g0, a.fr, a.live, a.len, a.nl, a.pin, a.own⟩
theorem At.ofNox {δ : List Sv} {H : Hp} {σ : L2.St} (a : At Γ.nox F δ G H σ) : At Γ F δ G H σ := ⟨a.sub, a.g0, a.fr, a.live, a.len, a.nl, a.pin, a.own⟩
theorem OkR.noX {α : Type} {F' : Fm} {r : Res α} {k : α → List Sv → Hp → Prop} (h : OkR Γ F G (Qm.noX r) k) : OkR Γ.nox F' G r k := by
  cases r with
  | ok a δ => exact h
  | exc x δ => exact h.elim
  | bad => exact h.elim
theorem light_wipe {δ : List Sv} {vs : List Nat} : True := trivial
theorem lcL_len {vs : List Nat} {t : Tgt} {c : M Bool} {el : M Dt} : ∀ {ds : List Dt} {δ δ' : List Sv} {ys : List Dt}, lcL vs t c el ds δ = .ok ys δ' → ys.length ≤ ds.length
  | [], δ, δ', ys, h => by cases h; exact Nat.le_refl _
  | d :: ds, δ, δ', ys, h => by
    unfold lcL at h
    cases h1 : Qm.noX (t d (wipeS δ vs)) with
    | ok u δ1 =>
      rw [h1, bnd_ok] at h
      cases h2 : Qm.noX (c δ1) with
      | ok b δ2 =>
        rw [h2, bnd_ok] at h
        cases b with
        | true =>
          rw [if_pos rfl] at h
          cases h3 : Qm.noX (el δ2) with
          | ok y δ3 =>
            rw [h3, bnd_ok] at h
            cases h4 : lcL vs t c el ds (restS δ3 δ vs) with
            | ok zs δ4 =>
              rw [h4, bnd_ok] at h
              cases h
              have := lcL_len h4
              simp only [List.length_cons]
              omega
            | exc x δ4 => rw [h4] at h; cases h
            | bad => rw [h4] at h; cases h
          | exc x δ3 => rw [h3] at h; cases h
          | bad => rw [h3] at h; cases h
        | false =>
          have := lcL_len (show lcL vs t c el ds (restS δ2 δ vs) = .ok ys δ' from h)
          simp only [List.length_cons]
          omega
      | exc x δ2 => rw [h2] at h; cases h
      | bad => rw [h2] at h; cases h
    | exc x δ1 => rw [h1] at h; cases h
    | bad => rw [h1] at h; cases h
end
section
variable {X : Cx} {Γ : Cn} {F : Fm} [L : Lk X Γ]
variable {e e1 e2 tg iter : Expr} {pos p : Pos} {g g1 g2 : Rg} {m m1 m2 : M Dt} {b1 : M Bool} {x : Str} {js ks vs : List Nat} {s1 s2 : M Fl}
theorem restS_light {δ' δ : List Sv} {vs : List Nat} (hl : δ'.length = δ.length) (h : lightS δ vs = true) : lightS (restS δ' δ vs) vs = true := by
  unfold lightS at h ⊢
  rw [List.all_eq_true] at h ⊢
  intro v hv
  have := h v hv
  rw [List.getD_eq_getElem?_getD, restS_get, if_pos hv]
  split
  · exact this
  · rfl
theorem so_lc {wi : TI} {gt : TG} {tt : TT} {te : TE} {t : Tgt} {it : M (List Dt)} {c : M Bool} {el : M Dt} (hp : ∀ v ∈ vs, v ∉ Γ.ps) (hj : ∀ j ∈ js, j ∈ vs) (hi : SoI Γ wi it) (ht : SoTg Γ.nox gt js t) (hc : SoT Γ.nox tt c) (he : SoE Γ.nox te el) : SoV Γ (tLc wi gt tt te vs) (mLcO (mLc it vs t c el)) := fun F δ G H σ Q at_ k =>
  hi F δ G H σ _ at_ ((OkR.bnd (OkR.bnd k)).imp fun ds δ1 G1 s1 k1 J H1 a1 w D hD => by
    obtain ⟨⟨hlen, hlight⟩, k1⟩ := if_ok k1
    have start : At Γ F (δ1 ++ [.lst []]) G1 (upd H1 D (.lst [])) (σ ++ [some (.ref D)]) := a1.pushL hD .nil
    refine lc_it w (fun i H' => ∃ δ' G' acc, Same G1 G' ∧ At Γ F (δ' ++ [.lst acc]) G' H' (σ ++ [some (.ref D)]) ∧ lightS δ' vs = true ∧ acc.length ≤ i ∧ OkR Γ F G' (lcL vs t c el (ds.drop i) δ') fun ys δ2 G2 => ∀ v H2, At Γ F (δ2 ++ [.lst (acc ++ ys)]) G2 H2 (σ ++ [some v]) → Q v H2)
      ⟨δ1, G1, [], Same.refl _, start, hlight, Nat.le_refl _, k1.imp fun ys δ2 G2 s2 q => q G2 (Same.refl _)⟩ (fun i H' _ ⟨δ', G', acc, e, a, _⟩ => e.trans a.sub) ?_ ?_
    · rintro i x H' H2 hil ⟨δ', G', acc, e, a, hlt, hal, hI⟩ y
      have lnσ : δ'.length = σ.length := by
        have := a.len
        simp only [List.length_append, List.length_singleton] at this
        omega
      have hn : Γ.n ≤ δ'.length := by
        have h1 := at_.nl
        have h2 := at_.len
        omega
      obtain ⟨G2, d, hd, f2, g2, r⟩ := y G' e (good0 a.sub)
      rw [List.drop_eq_getElem_cons hil, show ds[i] = d from by rw [List.getElem?_eq_getElem hil] at hd; exact Option.some.inj hd] at hI
      have a2 : At Γ F (δ' ++ [.lst acc]) G2 H2 (σ ++ [some (.ref D)]) := a.step f2 g2.sub
      obtain ⟨F', a3, back, put⟩ := a2.hold hn
      have a4 := (a3.wipe hp).nox
      have hI2 := (OkR.bnd (hI.mono f2.g))
      refine ht F' (wipeS δ' vs) G2 H2 (wipe σ vs) x d _ a4 r ((OkR.noX hI2).imp fun _ δ3 G3 s3 k3 σ3 H3 a5 w3 => ⟨(w3 vs hj).trans (wipe_wipe σ vs), ?_⟩)
      have k3b := OkR.bnd k3
      refine hc F' δ3 G3 H3 σ3 _ a5 ((OkR.noX k3b).imp fun b δ4 G4 s4 k4 H4 a6 => ?_)
      have σsame : ∀ j, j ∉ vs → σ3[j]? = σ[j]? := fun j hj' => by
        have := congrArg (fun z : L2.St => z[j]?) (w3 vs hj)
        simp only [wipe_wipe] at this
        rw [wipe_at hj', wipe_at hj'] at this
        exact this
      have σlen : σ3.length = σ.length := by
        have := congrArg List.length (w3 vs hj)
        rw [wipe_length, wipe_length, wipe_length] at this
        exact this
      cases b with
      | true =>
        rw [if_pos rfl] at k4 ⊢
        have k4b := OkR.bnd k4
        refine he F' δ4 G4 H4 σ3 _ a6 ((OkR.noX k4b).imp fun yd δ5 G5 s5 k5 v5 H5 a7 r7 => ?_)
        have a8 := At.restore (vs := vs) a3 (((s3.trans s4).trans s5)) hp hlt σsame σlen a7.ofNox
        have a9 := put _ _ _ _ a8
        have len8 : (restS δ5 δ' vs).length = σ.length := a8.len.symm
        obtain ⟨b9, xs, q1, q2, q3, q4⟩ := a9.lst (i := (restS δ5 δ' vs).length) (ds := acc) (by rw [get_app, if_neg (by omega), if_pos rfl])
        have eb : b9 = D := by
          rw [get_app, len8, if_neg (by omega), if_pos rfl] at q1
          cases q1
          rfl
        subst eb
        refine ⟨xs, q2, ?_, restS δ5 δ' vs, G5, acc ++ [yd], (((e.trans f2.g).trans s3).trans s4).trans s5, ?_, ?_, ?_, ?_⟩
        · rw [q4.length]
          exact Nat.lt_of_le_of_lt (Nat.le_trans hal (Nat.le_of_lt (Nat.lt_of_lt_of_le hil hlen))) (by decide)
        · have := a9.putL (i := (restS δ5 δ' vs).length) (ds' := acc ++ [yd]) (xs' := xs ++ [v5]) (by rw [get_app, if_neg (by omega), if_pos rfl]) q1 q2 (q4.append (.cons r7 .nil))
          rw [set_last] at this
          exact this
        · exact restS_light (by rw [← a7.len, σlen, lnσ]) hlt
        · rw [List.length_append, List.length_singleton]; omega
        · have := OkR.bnd k5
          refine this.imp fun ys δ6 G6 s6 k6 v6 H6 a10 => k6 G6 (Same.refl _) v6 H6 ?_
          rw [List.append_assoc] at a10
          exact a10
      | false =>
        rw [if_neg (by decide)] at k4 ⊢
        have a8 := At.restore (vs := vs) a3 (s3.trans s4) hp hlt σsame σlen a6.ofNox
        exact ⟨restS δ4 δ' vs, G4, acc, ((e.trans f2.g).trans s3).trans s4, put _ _ _ _ a8, restS_light (by rw [← a6.len, σlen, lnσ]) hlt, Nat.le_succ_of_le hal, k4⟩
    · rintro H' ⟨δ', G', acc, e, a, hlt, hal, hI⟩
      rw [List.drop_length] at hI
      have := hI G' (Same.refl _) (.ref D) H'
      rw [List.append_nil] at this
      exact this a)
instance lkBlk {s : Shared} {H : Hp} {scope : Scope} {cenv : Env} {fp : List Addr} : Lk (X.blk s H scope cenv fp) Γ.nox := ⟨L.k, L.calm, L.un⟩
theorem qo_lc {elt : Expr} {scope : Scope} {own : List (Str × Nat)} {t : Tgt} {it : M (List Dt)} {el : M Dt} (hN : X.N.Nodup) (hi : PIt X Γ tg iter it) (ok : BlkOk X.N X.env.scope scope own) (hp : ∀ v ∈ own.map (·.2), v ∉ Γ.ps) (hj : ∀ j ∈ js, j ∈ own.map (·.2))
    (hg : ∀ (s : Shared) (H : Hp) (C : Addr) (cl : List (Str × Addr)) (fp : List Addr), PTg (X.blk s H scope (compEnvC scope cl C X.env) fp) Γ.nox tg js t)
    (he : ∀ (s : Shared) (H : Hp) (C : Addr) (cl : List (Str × Addr)) (fp : List Addr), PM (X.blk s H scope (compEnvC scope cl C X.env) fp) Γ.nox elt el) (hs : ∀ x, foldedSetIterable iter X.env x = pure x := by intro _; rfl) :
    PV X Γ (.ListComp elt [⟨tg, iter, [], 0⟩] scope pos) (mLcO (mLc it (own.map (·.2)) t mYes el)) := by
  obtain ⟨wi, h1, h2⟩ := hi
  exact ⟨_, pe_lc L.calm hN h1 ok (fun s H C cl fp => (hg s H C cl fp).can) (fun s H C cl fp => pts_nil) (fun s H C cl fp => (he s H C cl fp).can) hs, so_lc hp hj h2 so_tgOf (fun F δ G H σ Q a k => k G (Same.refl _) H a) so_teOf⟩
theorem qo_lcIf {elt cnd : Expr} {scope : Scope} {own : List (Str × Nat)} {t : Tgt} {it : M (List Dt)} {el : M Dt} {c : M Bool} (hN : X.N.Nodup) (hi : PIt X Γ tg iter it) (ok : BlkOk X.N X.env.scope scope own) (hp : ∀ v ∈ own.map (·.2), v ∉ Γ.ps) (hj : ∀ j ∈ js, j ∈ own.map (·.2))
    (hg : ∀ (s : Shared) (H : Hp) (C : Addr) (cl : List (Str × Addr)) (fp : List Addr), PTg (X.blk s H scope (compEnvC scope cl C X.env) fp) Γ.nox tg js t)
    (hc : ∀ (s : Shared) (H : Hp) (C : Addr) (cl : List (Str × Addr)) (fp : List Addr), PB (X.blk s H scope (compEnvC scope cl C X.env) fp) Γ.nox cnd c)
    (he : ∀ (s : Shared) (H : Hp) (C : Addr) (cl : List (Str × Addr)) (fp : List Addr), PM (X.blk s H scope (compEnvC scope cl C X.env) fp) Γ.nox elt el) (hs : ∀ x, foldedSetIterable iter X.env x = pure x := by intro _; rfl) :
    PV X Γ (.ListComp elt [⟨tg, iter, [cnd], 0⟩] scope pos) (mLcO (mLc it (own.map (·.2)) t c el)) := by
  obtain ⟨wi, h1, h2⟩ := hi
  exact ⟨_, pe_lc L.calm hN h1 ok (fun s H C cl fp => (hg s H C cl fp).can) (fun s H C cl fp => pts_one (hc s H C cl fp).can) (fun s H C cl fp => (he s H C cl fp).can) hs, so_lc hp hj h2 so_tgOf so_ttOf so_teOf⟩
/-- x = [..] -/
theorem qs_lcO {elt : Expr} {ifs : List Expr} {scope : Scope} {own : List (Str × Nat)} {i : Nat} {y : Str} {py spos : Pos} {t : Tgt} {it : M (List Dt)} {el : M Dt} {c : M Bool} (hN : X.N.Nodup) (hy : X.N[i]? = some y) (hyl : X.env.scope.names.lookup y = some .local)
    (hsw : swapsWith (.ListComp elt [⟨tg, iter, ifs, 0⟩] scope pos) (some (.Name y py)) spos.line X.env = pure true) (hq : i ∉ Γ.ps) (hi : PIt X Γ tg iter it) (ok : BlkOk X.N X.env.scope scope own) (hp : ∀ v ∈ own.map (·.2), v ∉ Γ.ps) (hj : ∀ j ∈ js, j ∈ own.map (·.2))
    (hg : ∀ (s : Shared) (H : Hp) (C : Addr) (cl : List (Str × Addr)) (fp : List Addr), PTg (X.blk s H scope (compEnvC scope cl C X.env) fp) Γ.nox tg js t)
    (hc : ∀ (s : Shared) (H : Hp) (C : Addr) (cl : List (Str × Addr)) (fp : List Addr), PTs (X.blk s H scope (compEnvC scope cl C X.env) fp) ifs (ttOf Γ.nox c))
    (he : ∀ (s : Shared) (H : Hp) (C : Addr) (cl : List (Str × Addr)) (fp : List Addr), PM (X.blk s H scope (compEnvC scope cl C X.env) fp) Γ.nox elt el) (hs : ∀ x, foldedSetIterable iter X.env x = pure x := by intro _; rfl) :
    PQ X Γ (.Assign [.Name y py] (.ListComp elt [⟨tg, iter, ifs, 0⟩] scope pos) spos) (mAsgO i (mLcO (mLc it (own.map (·.2)) t c el))) := by
  obtain ⟨wi, h1, h2⟩ := hi
  exact ⟨_, ps_setLc L.calm hN hy hyl hsw h1 ok (fun s H C cl fp => (hg s H C cl fp).can) hc (fun s H C cl fp => (he s H C cl fp).can) hs, so_asgO hq (so_lc hp hj h2 so_tgOf so_ttOf so_teOf)⟩
theorem qts_nil : PTs X [] (ttOf Γ mYes) := ⟨fun pins s σ H Q I ⟨F, δ, G, a, k⟩ => pts_nil.run pins s σ H Q I (k G (Same.refl _) H a)⟩
theorem qts_one {cnd : Expr} {c : M Bool} (h : PB X Γ cnd c) : PTs X [cnd] (ttOf Γ c) := pts_one h.can
/-- as a datum -/
theorem SoV.fz {te : TE} {mv : M Sv} (h2 : SoV Γ te mv) : SoE Γ te (mFz mv) := by
  intro F δ G H σ Q a k
  refine h2 F δ G H σ _ a ((OkR.bnd k).imp fun s δ1 G1 s1 k1 v H1 a1 => ?_)
  have hn := len_app a a1
  cases s with
  | dat d => obtain ⟨a2, r2⟩ := a1.popD hn; exact k1 G1 (Same.refl _) v H1 a2 r2
  | lst ds =>
    obtain ⟨G2, s2, a2⟩ := a1.freeze (i := δ1.length) (ds := ds) (by rw [get_app, if_neg (by omega), if_pos rfl])
    rw [set_last] at a2
    obtain ⟨a3, r3⟩ := a2.popD hn
    exact k1 G2 s2 v H1 a3 r3
  | un => exact k1.elim
  | dic kvs => exact k1.elim
  | ins C fs => exact k1.elim
theorem mFz_lc {l : M (List Dt)} : mFz (mLcO l) = mLcD l := by
  funext δ
  unfold mFz mLcO mLcD
  cases l δ <;> rfl
theorem qe_lc {mv : M (List Dt)} (h : PV X Γ e (mLcO mv)) : PM X Γ e (mLcD mv) := by
  have := qe_fz h
  rw [mFz_lc] at this
  exact this
theorem qs_lcD {elt : Expr} {ifs : List Expr} {scope : Scope} {own : List (Str × Nat)} {i : Nat} {y : Str} {py spos : Pos} {t : Tgt} {it : M (List Dt)} {el : M Dt} {c : M Bool} (hN : X.N.Nodup) (hy : X.N[i]? = some y) (hyl : X.env.scope.names.lookup y = some .local)
    (hsw : swapsWith (.ListComp elt [⟨tg, iter, ifs, 0⟩] scope pos) (some (.Name y py)) spos.line X.env = pure true) (hq : i ∉ Γ.ps) (hi : PIt X Γ tg iter it) (ok : BlkOk X.N X.env.scope scope own) (hp : ∀ v ∈ own.map (·.2), v ∉ Γ.ps) (hj : ∀ j ∈ js, j ∈ own.map (·.2))
    (hg : ∀ (s : Shared) (H : Hp) (C : Addr) (cl : List (Str × Addr)) (fp : List Addr), PTg (X.blk s H scope (compEnvC scope cl C X.env) fp) Γ.nox tg js t)
    (hc : ∀ (s : Shared) (H : Hp) (C : Addr) (cl : List (Str × Addr)) (fp : List Addr), PTs (X.blk s H scope (compEnvC scope cl C X.env) fp) ifs (ttOf Γ.nox c))
    (he : ∀ (s : Shared) (H : Hp) (C : Addr) (cl : List (Str × Addr)) (fp : List Addr), PM (X.blk s H scope (compEnvC scope cl C X.env) fp) Γ.nox elt el) (hs : ∀ x, foldedSetIterable iter X.env x = pure x := by intro _; rfl) :
    PQ X Γ (.Assign [.Name y py] (.ListComp elt [⟨tg, iter, ifs, 0⟩] scope pos) spos) (mAsg i (mLcD (mLc it (own.map (·.2)) t c el))) := by
  obtain ⟨wi, h1, h2⟩ := hi
  have := SoV.fz (so_lc (vs := own.map (·.2)) hp hj h2 (so_tgOf (js := js) (t := t)) (so_ttOf (m := c)) (so_teOf (m := el)))
  rw [mFz_lc] at this
  exact ⟨_, ps_setLc L.calm hN hy hyl hsw h1 ok (fun s H C cl fp => (hg s H C cl fp).can) hc (fun s H C cl fp => (he s H C cl fp).can) hs, so_asg hq this⟩
end
end Qm

set_option Elab.async false
set_option linter.all false
set_option maxRecDepth 100000
set_option maxHeartbeats 2000000
namespace Qm
open PySem PySem.Spec PyProof.Rows L2 Pd

/-! ### own lists: append, pop, items -/
section
variable {X : Cx} {Γ : Cn} {F : Fm} [L : Lk X Γ]
variable {e e1 e2 tg iter : Expr} {pos p apos cpos : Pos} {g g1 g2 : Rg} {m m1 m2 : M Dt} {b1 : M Bool} {x : Str} {js ks vs : List Nat} {s1 s2 : M Fl} {i : Nat}
def isL (s : Option Sv) : Bool := match s with
  | some (.lst _) => true
  | _ => false
theorem isL_some {o : Option Sv} (h : isL o = true) : ∃ ds, o = some (.lst ds) := by
  unfold isL at h
  split at h
  · exact ⟨_, rfl⟩
  · cases h
def appL (i : Nat) (d : Dt) (δ : List Sv) : Res Dt := match δ[i]? with
  | some (.lst ds) => if ds.length < 100000 then .ok .non (δ.set i (.lst (ds ++ [d]))) else .bad
  | _ => .bad
def mApp (i : Nat) (m : M Dt) : M Dt := fun δ => if isL δ[i]? = true then (m δ).bnd fun d δ1 => appL i d δ1 else .bad
theorem appL_eq {i : Nat} {d : Dt} {δ : List Sv} {ds : List Dt} (h : δ[i]? = some (.lst ds)) (hl : ds.length < 100000) : appL i d δ = .ok .non (δ.set i (.lst (ds ++ [d]))) := by
  unfold appL
  rw [h]
  simp only [hl, if_true]
theorem qe_app (hN : X.N[i]? = some x) (hv : Vis X.env.scope x) (h : PM X Γ e m) (hbase : attributeBase (.Name x p) "append" X.env (eval (.Name x p) X.env) = eval (.Name x p) X.env := by rfl)
    (hfew : ((backTo cpos (starEach [e] X.env)).all (fun x => !x.1) && (backToKw cpos (keywordEach [] X.env)).all (fun x => x.1.isSome) && decide ([e].length + ([] : List Keyword).length + (if ([] : List Keyword).isEmpty then 0 else 1) < 30)) = true := by rfl)
    (hline : (apos.endLine == cpos.line) = true := by rfl) (hs : starEach [e] X.env = (false, eval e X.env) :: starEach [] X.env := by rfl) (hd : (x == ("__debug__" : Str)) = false := by decide) (hcd : (x == ("__classdict__" : Str)) = false := by decide) : PM X Γ (.Call (.Attribute (.Name x p) "append" apos) [e] [] cpos) (mApp i m) := by
  obtain ⟨te, h1, h2⟩ := h
  refine ⟨_, pe_bm PySem.F.plainAttrs_list PySem.F.slot_list_append PySem.F.type_list_append mt_append (pe_var hN hv hd hcd) (pa_cons h1 pa_nil hs) hbase hfew hline hs, fun F δ G H σ Q a k => ?_⟩
  obtain ⟨hi, k⟩ := if_ok k
  obtain ⟨ds0, hi⟩ := isL_some hi
  obtain ⟨b, xs0, q1, q2, q3, q4⟩ := a.lst hi
  refine ⟨.ref b, q1, .inl ⟨rfl, xs0, .inl (.inl q2)⟩, h2 F δ G H σ _ a ((OkR.bnd k).imp fun d δ1 G1 s1 k1 v H1 a1 r1 => ?_)⟩
  unfold appL at k1
  split at k1
  · rename_i ds hd
    obtain ⟨hl, k1⟩ := if_ok k1
    obtain ⟨b', xs, w1, w2, w3, w4⟩ := a1.lst hd
    rw [q1] at w1
    cases w1
    exact ⟨b, xs, v, rfl, rfl, w2, by rw [w4.length]; exact Nat.lt_trans hl (by decide), k1 G1 (Same.refl _) _ _ (a1.putL hd q1 w2 (w4.append (.cons r1 .nil))) .non⟩
  · exact k1.elim
def popL (i : Nat) (d : Dt) (δ : List Sv) : Res Dt := match d, δ[i]? with
  | .int k, some (.lst ds) => if 0 ≤ k ∧ k < 2 ^ 62 then (match ds[k.toNat]? with
    | some y => .ok y (δ.set i (.lst (ds.eraseIdx k.toNat)))
    | none => .bad) else .bad
  | _, _ => .bad
def mPop (i : Nat) (m : M Dt) : M Dt := fun δ => if isL δ[i]? = true then (m δ).bnd fun d δ1 => popL i d δ1 else .bad
theorem qe_pop (hN : X.N[i]? = some x) (hv : Vis X.env.scope x) (h : PM X Γ e m) (hbase : attributeBase (.Name x p) "pop" X.env (eval (.Name x p) X.env) = eval (.Name x p) X.env := by rfl)
    (hfew : ((backTo cpos (starEach [e] X.env)).all (fun x => !x.1) && (backToKw cpos (keywordEach [] X.env)).all (fun x => x.1.isSome) && decide ([e].length + ([] : List Keyword).length + (if ([] : List Keyword).isEmpty then 0 else 1) < 30)) = true := by rfl)
    (hline : (apos.endLine == cpos.line) = true := by rfl) (hs : starEach [e] X.env = (false, eval e X.env) :: starEach [] X.env := by rfl) (hd : (x == ("__debug__" : Str)) = false := by decide) (hcd : (x == ("__classdict__" : Str)) = false := by decide) : PM X Γ (.Call (.Attribute (.Name x p) "pop" apos) [e] [] cpos) (mPop i m) := by
  obtain ⟨te, h1, h2⟩ := h
  refine ⟨_, pe_bm PySem.F.plainAttrs_list PySem.F.slot_list_pop PySem.F.type_list_pop mt_popAt (pe_var hN hv hd hcd) (pa_cons h1 pa_nil hs) hbase hfew hline hs, fun F δ G H σ Q a k => ?_⟩
  obtain ⟨hi, k⟩ := if_ok k
  obtain ⟨ds0, hi⟩ := isL_some hi
  obtain ⟨b, xs0, q1, q2, q3, q4⟩ := a.lst hi
  refine ⟨.ref b, q1, .inl ⟨rfl, xs0, .inl (.inl q2)⟩, h2 F δ G H σ _ a ((OkR.bnd k).imp fun d δ1 G1 s1 k1 v H1 a1 r1 => ?_)⟩
  unfold popL at k1
  split at k1
  · rename_i kk ds hd
    obtain ⟨hl, k1⟩ := if_ok k1
    split at k1
    · rename_i y hy
      obtain ⟨b', xs, w1, w2, w3, w4⟩ := a1.lst hd
      rw [q1] at w1
      cases w1
      cases r1
      obtain ⟨u, hu, ru⟩ := w4.getD hy
      have hlt : kk.toNat < xs.length := (List.getElem?_eq_some_iff.mp hu).1
      have hsq : seqIndex? kk xs.length = some kk.toNat := by
        have := Pd.seqIndex_nat hlt
        rw [Int.toNat_of_nonneg hl.1] at this
        exact this
      exact ⟨b, xs, kk, kk.toNat, u, rfl, rfl, w2, by omega, by omega, hsq, hu, k1 G1 (Same.refl _) _ _ (a1.putL hd q1 w2 (drall_erase _ w4)) ru⟩
    · exact k1.elim
  · exact k1.elim
/-- xs[e] as a target -/
def setL (i : Nat) (k d : Dt) (δ : List Sv) : Res Unit := match k, δ[i]? with
  | .int k, some (.lst ds) => (match ixN ds.length k with
    | some j => .ok () (δ.set i (.lst (ds.set j d)))
    | none => .bad)
  | _, _ => .bad
def tgSub (i : Nat) (m : M Dt) : Tgt := fun d δ => if isL δ[i]? = true then (m δ).bnd fun k δ1 => setL i k d δ1 else .bad
theorem qg_sub (hN : X.N[i]? = some x) (hv : Vis X.env.scope x) (h : PM X Γ e m) (hd : (x == ("__debug__" : Str)) = false := by decide) (hcd : (x == ("__classdict__" : Str)) = false := by decide)
    (ha : ∀ v, assign (.Subscript (.Name x p) e pos) X.env v = (do let ov ← holding [v] (eval (.Name x p) X.env); let iv ← holding [v, ov] (eval e X.env); standAt pos; holding [v, ov, iv] (setItem ov iv v); release [v, ov, iv] []) := by intro _; rfl) : PTg X Γ (.Subscript (.Name x p) e pos) [] (tgSub i m) := by
  obtain ⟨te, h1, h2⟩ := h
  refine ⟨_, pg_sub (pe_var hN hv hd hcd) h1 set_list ha, fun F δ G H σ v d Q a r k => ?_⟩
  obtain ⟨hi, k⟩ := if_ok k
  obtain ⟨ds0, hi⟩ := isL_some hi
  obtain ⟨b, xs0, q1, q2, q3, q4⟩ := a.lst hi
  refine ⟨.ref b, q1, h2 F δ G H σ _ a ((OkR.bnd k).imp fun kd δ1 G1 s1 k1 w H1 a1 r1 => ?_)⟩
  unfold setL at k1
  split at k1
  · rename_i kk ds hd
    split at k1
    · rename_i j hj
      obtain ⟨b', xs, w1, w2, w3, w4⟩ := a1.lst hd
      rw [q1] at w1
      cases w1
      cases r1
      exact ⟨b, xs, kk, j, rfl, rfl, w2, by rw [w4.length]; exact hj, k1 G1 (Same.refl _) σ _ (a1.putL hd q1 w2 (w4.set (r.mono s1) j)) fun _ _ => rfl⟩
    · exact k1.elim
  · exact k1.elim

/-! ### a, b = e1, e2 -/
def mPar (i j : Nat) (a b : M Sv) : M Fl := fun δ => (a δ).bnd fun s δ1 => (b δ1).bnd fun t δ2 => .ok .nx ((δ2.set i s).set j t)
theorem so_par {j : Nat} {ta tb : TE} {v1 v2 : M Sv} (hi : i ∉ Γ.ps) (hj : j ∉ Γ.ps) (hin : i < Γ.n) (ha : SoV Γ ta v1) (hb : SoV Γ tb v2) : SoS Γ (tPar i j (tCons ta (tCons tb tNil))) (mPar i j v1 v2) := fun F δ G H σ D at_ k =>
  ha F δ G H σ _ at_ ((OkR.bnd k).imp fun s δ1 G1 s1 k1 v H1 a1 => by
    have hn := len_app at_ a1
    obtain ⟨F', a2, back, put⟩ := a1.hold hn
    refine hb F' δ1 G1 H1 σ _ a2 (OkR.frame (OkR.bnd k1) back fun t δ2 G2 s2 k2 w H2 a3 => ⟨v, w, rfl, ?_⟩)
    have hn2 := len_app a2 a3
    have a4 := (put _ _ _ _ a3).move hi (Nat.le_trans hn2 (by simp))
    have l2 : σ.length = δ2.length := by simpa using a3.len
    rw [List.set_append_left _ _ (by omega), List.set_append_left _ _ (by omega)] at a4
    exact k2 G2 (Same.refl _) _ H2 (a4.move hj (by rw [List.length_set]; exact hn2)))
theorem qs_par {j : Nat} {xi xj : Str} {px py pt pt2 : Pos} {kt k2 : Nat} {v1 v2 : M Sv} (hN : X.N.Nodup) (hxi : X.N[i]? = some xi) (hxj : X.N[j]? = some xj) (hij : i ≠ j) (hx : X.env.scope.names.lookup xi = some .local) (hy : X.env.scope.names.lookup xj = some .local)
    (hi : i ∉ Γ.ps) (hj : j ∉ Γ.ps) (hin : i < Γ.n) (ha : PV X Γ e1 v1) (hb : PV X Γ e2 v2) (hw : swappedStores [.Tuple [.Name xi px, .Name xj py] kt pt] (.Tuple [e1, e2] k2 pt2) X.env = pure (some [xi, xj]))
    (hs : starEach [e1, e2] X.env = (false, eval e1 X.env) :: starEach [e2] X.env := by rfl) (hs2 : starEach [e2] X.env = (false, eval e2 X.env) :: starEach [] X.env := by rfl)
    (hsw : swapsWithSole [.Tuple [.Name xi px, .Name xj py] kt pt] (.Tuple [e1, e2] k2 pt2) pos.line X.env = pure false := by rfl) : PQ X Γ (.Assign [.Tuple [.Name xi px, .Name xj py] kt pt] (.Tuple [e1, e2] k2 pt2) pos) (mPar i j v1 v2) := by
  obtain ⟨_, h1, h2⟩ := ha
  obtain ⟨_, h3, h4⟩ := hb
  exact ⟨_, ps_par L.calm hN hxi hxj hij hx hy (pa_cons h1 (pa_cons h3 pa_nil hs2) hs) hw hsw, so_par hi hj hin h2 h4⟩
end

/-! ### defs and their calls -/
def backS (δ : List Sv) : List (Option Nat) → List Sv → List Sv
  | some j :: ks, a :: as => (backS δ ks as).set j a
  | none :: ks, _ :: as => backS δ ks as
  | _, _ => δ
theorem backS_len {δ : List Sv} : ∀ (ks : List (Option Nat)) (as : List Sv), (backS δ ks as).length = δ.length
  | [], _ => by unfold backS; rfl
  | none :: ks, [] => rfl
  | some j :: ks, [] => rfl
  | none :: ks, _ :: as => by unfold backS; exact backS_len ks as
  | some j :: ks, _ :: as => by unfold backS; rw [List.length_set]; exact backS_len ks as
theorem backS_none {δ : List Sv} {j : Nat} : ∀ {ks : List (Option Nat)} {as : List Sv}, (∀ k : Nat, ks[k]? ≠ some (some j)) → (backS δ ks as)[j]? = δ[j]?
  | [], _, _ => by unfold backS; rfl
  | none :: ks, [], _ => rfl
  | some i :: ks, [], _ => rfl
  | none :: ks, _ :: as, h => by unfold backS; exact backS_none fun k => h (k + 1)
  | some i :: ks, _ :: as, h => by
    unfold backS
    rw [set_get, if_neg (fun z => h 0 (by rw [z]; rfl))]
    exact backS_none fun k => h (k + 1)
theorem backS_some {δ : List Sv} {j : Nat} (hj : j < δ.length) : ∀ {ks : List (Option Nat)} {as : List Sv} {k : Nat}, ks[k]? = some (some j) → (∀ k l : Nat, ks[k]? = some (some j) → ks[l]? = some (some j) → k = l) → (backS δ ks as)[j]? = if k < as.length then as[k]? else δ[j]?
  | [], _, _, h, _ => by simp at h
  | none :: ks, [], k, h, _ => by simp [backS]
  | some i :: ks, [], k, h, _ => by simp [backS]
  | none :: ks, a :: as, 0, h, _ => by simp at h
  | none :: ks, a :: as, k + 1, h, u => by
    unfold backS
    rw [backS_some hj (k := k) h fun k l h1 h2 => by have := u (k + 1) (l + 1) h1 h2; omega]
    simp only [List.length_cons, Nat.add_lt_add_iff_right, List.getElem?_cons_succ]
  | some i :: ks, a :: as, 0, h, _ => by
    simp only [List.getElem?_cons_zero, Option.some.injEq] at h
    subst h
    unfold backS
    rw [set_get, if_pos rfl, backS_len, if_pos hj]
    simp
  | some i :: ks, a :: as, k + 1, h, u => by
    have hij : i ≠ j := fun z => by
      have := u 0 (k + 1) (by rw [z]; rfl) h
      omega
    unfold backS
    rw [set_get, if_neg hij, backS_some hj (k := k) h fun k l h1 h2 => by have := u (k + 1) (l + 1) h1 h2; omega]
    simp only [List.length_cons, Nat.add_lt_add_iff_right, List.getElem?_cons_succ]
def Cn.zero (K : PySem.W.Frag) : Cn := ⟨K, fun _ _ _ _ => False, [], fun _ => .non, 0, fun i h => nomatch h⟩
/-- a def's promise: it runs as its mirror c tells; kd: which parameters it may change -/
def spM (K : PySem.W.Frag) (n : Nat) (kd : List (Option Nat)) (c : List Sv → Res Sv) : Sp := fun vs H Q _ => vs.length = n ∧ ∃ G M args, At (Cn.zero K) ⟨G, H, M⟩ args G H (vs.map some) ∧ (∀ (k : Nat) s, args[k]? = some s → (∃ d, s = .dat d) ∨ ∃ j, kd[k]? = some (some j)) ∧
  match c args with
  | .ok s outs => ∀ v G' H', Same G G' → At (Cn.zero K) ⟨G, H, M⟩ (backS args kd outs ++ [s]) G' H' (vs.map some ++ [some v]) → Q v H'
  | _ => False
inductive Ag where
  | ex (m : M Dt)
  | io (i : Nat)
def Ag.kind : Ag → Option Nat
  | .ex _ => none
  | .io i => some i
def isOwn (s : Option Sv) : Bool := match s with
  | some (.lst _) => true
  | some (.dic _) => true
  | some (.ins _ _) => true
  | _ => false
def mAgs : List Ag → M (List Dt)
  | [] => fun δ => .ok [] δ
  | .ex m :: as => fun δ => (m δ).bnd fun d δ1 => (mAgs as δ1).bnd fun ds δ2 => .ok (d :: ds) δ2
  | .io i :: as => fun δ => if isOwn δ[i]? = true then (mAgs as δ).bnd fun ds δ2 => .ok (.non :: ds) δ2 else .bad
def pickA (δ : List Sv) : List Ag → List Dt → List Sv
  | .ex _ :: as, d :: ds => .dat d :: pickA δ as ds
  | .io i :: as, _ :: ds => δ.getD i .un :: pickA δ as ds
  | _, _ => []
def mCall (c : List Sv → Res Sv) (ags : List Ag) : M Sv := fun δ => (mAgs ags δ).bnd fun ds δ1 => match c (pickA δ1 ags ds) with
  | .ok s outs => .ok s (backS δ1 (ags.map Ag.kind) outs)
  | _ => .bad
inductive AgOk (K : PySem.W.Frag) (G : Hp) (σ : L2.St) : List V → List Ag → List Dt → Prop
  | nil : AgOk K G σ [] [] []
  | ex {v : V} {d : Dt} {m : M Dt} {vs : List V} {as : List Ag} {ds : List Dt} : Dr K G v d → AgOk K G σ vs as ds → AgOk K G σ (v :: vs) (.ex m :: as) (d :: ds)
  | io {v : V} {i : Nat} {vs : List V} {as : List Ag} {ds : List Dt} : σ[i]? = some (some v) → AgOk K G σ vs as ds → AgOk K G σ (v :: vs) (.io i :: as) (.non :: ds)
def SoAg (Γ : Cn) (ta : TA) (ags : List Ag) : Prop := ∀ F δ G H σ (Q : List V → Hp → Prop), At Γ F δ G H σ → OkR Γ F G (mAgs ags δ) (fun ds δ' G' => ∀ vs H', At Γ F δ' G' H' σ → AgOk Γ.K G' σ vs ags ds → Q vs H') → ta σ H Q
def PAg (X : Cx) (Γ : Cn) (es : List Expr) (ags : List Ag) : Prop := ∃ ta, PA X es ta ∧ SoAg Γ ta ags
section
variable {X : Cx} {Γ : Cn} {F : Fm} [L : Lk X Γ]
variable {e : Expr} {es : List Expr} {pos p : Pos} {m : M Dt} {x : Str} {ags : List Ag}
theorem qag_nil : PAg X Γ [] [] := ⟨_, pa_nil, fun F δ G H σ Q a k => k G (Same.refl _) [] H a .nil⟩
theorem AgOk.mono {K : PySem.W.Frag} {G G' : Hp} {σ : L2.St} (s : Same G G') : ∀ {vs : List V} {as : List Ag} {ds : List Dt}, AgOk K G σ vs as ds → AgOk K G' σ vs as ds
  | _, _, _, .nil => .nil
  | _, _, _, .ex r t => .ex (r.mono s) (AgOk.mono s t)
  | _, _, _, .io r t => .io r (AgOk.mono s t)
theorem qag_ex (ha : PM X Γ e m) (hr : PAg X Γ es ags) (hs : starEach (e :: es) X.env = (false, eval e X.env) :: starEach es X.env := by rfl) : PAg X Γ (e :: es) (.ex m :: ags) := by
  obtain ⟨_, h1, h2⟩ := ha
  obtain ⟨_, h3, h4⟩ := hr
  exact ⟨_, pa_cons h1 h3 hs, fun F δ G H σ Q a k => h2 F δ G H σ _ a ((OkR.bnd k).imp fun d δ1 G1 s1 k1 v H1 a1 r1 => h4 F δ1 G1 H1 σ _ a1 ((OkR.bnd k1).imp fun ds δ2 G2 s2 k2 vs H2 a2 r2 => k2 G2 (Same.refl _) (v :: vs) H2 a2 (.ex (r1.mono s2) r2)))⟩
theorem At.ownAt {δ : List Sv} {G H : Hp} {σ : L2.St} (a : At Γ F δ G H σ) {i : Nat} (h : isOwn δ[i]? = true) : ∃ v, σ[i]? = some (some v) := by
  obtain ⟨fp, h1, _⟩ := a.own
  have key : ∀ {v : V}, σ[i]?.join = some v → σ[i]? = some (some v) := fun {v} h2 => by
    cases q : σ[i]? with
    | none => rw [q] at h2; cases h2
    | some z => rw [q] at h2; rw [show z = some v from h2]
  unfold isOwn at h
  split at h
  · rename_i ds e
    obtain ⟨b, xs, q, _⟩ := h1 i _ e
    exact ⟨_, key q⟩
  · rename_i ds e
    obtain ⟨b, xs, q, _⟩ := h1 i _ e
    exact ⟨_, key q⟩
  · rename_i C fs e
    obtain ⟨b, dx, fs', q, _⟩ := h1 i _ e
    exact ⟨_, key q⟩
  · cases h
theorem qag_io {i : Nat} (hN : X.N[i]? = some x) (hv : Vis X.env.scope x) (hr : PAg X Γ es ags) (hs : starEach (.Name x p :: es) X.env = (false, eval (.Name x p) X.env) :: starEach es X.env := by rfl) (hd : (x == ("__debug__" : Str)) = false := by decide) (hcd : (x == ("__classdict__" : Str)) = false := by decide) : PAg X Γ (.Name x p :: es) (.io i :: ags) := by
  obtain ⟨_, h3, h4⟩ := hr
  refine ⟨_, pa_cons (pe_var hN hv hd hcd) h3 hs, fun F δ G H σ Q a k => ?_⟩
  obtain ⟨ho, k⟩ := if_ok k
  obtain ⟨v, hv⟩ := a.ownAt ho
  exact ⟨v, hv, h4 F δ G H σ _ a ((OkR.bnd k).imp fun ds δ2 G2 s2 k2 vs H2 a2 r2 => k2 G2 (Same.refl _) (v :: vs) H2 a2 (.io hv r2))⟩
end
end Qm

set_option Elab.async false
set_option linter.all false
set_option maxRecDepth 100000
set_option maxHeartbeats 2000000
namespace Qm
open PySem PySem.Spec PyProof.Rows L2 Pd

section
variable {K : PySem.W.Frag} {G : Hp} {σ : L2.St}
theorem AgOk.len : ∀ {vs : List V} {as : List Ag} {ds : List Dt}, AgOk K G σ vs as ds → vs.length = as.length
  | _, _, _, .nil => rfl
  | _, _, _, .ex _ t => by rw [List.length_cons, List.length_cons, t.len]
  | _, _, _, .io _ t => by rw [List.length_cons, List.length_cons, t.len]
theorem AgOk.pickLen {δ : List Sv} : ∀ {vs : List V} {as : List Ag} {ds : List Dt}, AgOk K G σ vs as ds → (pickA δ as ds).length = as.length
  | _, _, _, .nil => rfl
  | _, _, _, .ex _ t => by unfold pickA; rw [List.length_cons, List.length_cons, t.pickLen]
  | _, _, _, .io _ t => by unfold pickA; rw [List.length_cons, List.length_cons, t.pickLen]
/-- the argument at k: a datum, or what stands in a slot -/
theorem AgOk.at_ {δ : List Sv} : ∀ {vs : List V} {as : List Ag} {ds : List Dt} {k : Nat} {s : Sv}, AgOk K G σ vs as ds → (pickA δ as ds)[k]? = some s →
    (∃ v d, s = .dat d ∧ vs[k]? = some v ∧ Dr K G v d ∧ (as.map Ag.kind)[k]? = some none) ∨ ∃ v j, (as.map Ag.kind)[k]? = some (some j) ∧ s = δ.getD j .un ∧ vs[k]? = some v ∧ σ[j]? = some (some v)
  | _, _, _, k, _, .nil, h => by simp [pickA] at h
  | _, _, _, 0, _, .ex r t, h => by
    simp only [pickA, List.getElem?_cons_zero, Option.some.injEq] at h
    exact .inl ⟨_, _, h.symm, rfl, r, rfl⟩
  | _, _, _, 0, _, .io r t, h => by
    simp only [pickA, List.getElem?_cons_zero, Option.some.injEq] at h
    exact .inr ⟨_, _, rfl, h.symm, rfl, r⟩
  | _, _, _, k + 1, _, .ex r t, h => by
    simp only [pickA, List.getElem?_cons_succ] at h
    simpa using t.at_ h
  | _, _, _, k + 1, _, .io r t, h => by
    simp only [pickA, List.getElem?_cons_succ] at h
    simpa using t.at_ h
end
/-- no slot twice -/
def Once (ks : List (Option Nat)) : Prop := ∀ j k l : Nat, ks[k]? = some (some j) → ks[l]? = some (some j) → k = l
/-- the callee's own view of which parameters change -/
def SameKd (kd ks : List (Option Nat)) : Prop := ∀ k : Nat, (∀ j, kd[k]? = some (some j) → j = k) ∧ ((∃ j, kd[k]? = some (some j)) ↔ ∃ j, ks[k]? = some (some j))
theorem once_of {ks : List (Option Nat)} (h : (ks.filterMap id).Nodup) : Once ks := by
  intro j k l
  induction ks generalizing k l with
  | nil => intro hk; simp at hk
  | cons o ks ih =>
    cases o with
    | none =>
      have h' : (ks.filterMap id).Nodup := by simpa using h
      intro hk hl
      cases k with
      | zero => simp at hk
      | succ k =>
        cases l with
        | zero => simp at hl
        | succ l => rw [ih h' k l hk hl]
    | some i =>
      have h' := h
      simp only [List.filterMap_cons, id] at h'
      have h2 := List.nodup_cons.mp h'
      have mem : ∀ {k : Nat}, ks[k]? = some (some j) → j ∈ ks.filterMap id := fun {k} hk => List.mem_filterMap.mpr ⟨some j, List.mem_of_getElem? hk, rfl⟩
      intro hk hl
      cases k with
      | zero =>
        cases l with
        | zero => rfl
        | succ l =>
          simp only [List.getElem?_cons_zero, Option.some.injEq] at hk
          subst hk
          exact absurd (mem hl) h2.1
      | succ k =>
        cases l with
        | zero =>
          simp only [List.getElem?_cons_zero, Option.some.injEq] at hl
          subst hl
          exact absurd (mem hk) h2.1
        | succ l => rw [ih h2.2 k l hk hl]
/-- kd out of the kinds -/
def kdOf : Nat → List (Option Nat) → List (Option Nat)
  | _, [] => []
  | k, none :: ks => none :: kdOf (k + 1) ks
  | k, some _ :: ks => some k :: kdOf (k + 1) ks
theorem kdOf_get : ∀ (n : Nat) (ks : List (Option Nat)) (k : Nat), (∀ j, (kdOf n ks)[k]? = some (some j) → j = n + k) ∧ ((∃ j, (kdOf n ks)[k]? = some (some j)) ↔ ∃ j, ks[k]? = some (some j))
  | n, [], k => by simp [kdOf]
  | n, none :: ks, 0 => by simp [kdOf]
  | n, some i :: ks, 0 => by simp [kdOf]
  | n, none :: ks, k + 1 => by
    simp only [kdOf, List.getElem?_cons_succ]
    have := kdOf_get (n + 1) ks k
    refine ⟨fun j h => ?_, this.2⟩
    have := this.1 j h
    omega
  | n, some i :: ks, k + 1 => by
    simp only [kdOf, List.getElem?_cons_succ]
    have := kdOf_get (n + 1) ks k
    refine ⟨fun j h => ?_, this.2⟩
    have := this.1 j h
    omega
theorem sameKd_of {kd ks : List (Option Nat)} (h : kd = kdOf 0 ks) : SameKd kd ks := fun k => by
  subst h
  have := kdOf_get 0 ks k
  refine ⟨fun j e => ?_, this.2⟩
  have := this.1 j e
  omega
section
variable {Γ : Cn} {F : Fm} {δ : List Sv} {G H : Hp} {σ : L2.St} {vs : List V} {ags : List Ag} {ds : List Dt} {kd : List (Option Nat)}
theorem At.call (a : At Γ F δ G H σ) (r : AgOk Γ.K G σ vs ags ds) (hu : Once (ags.map Ag.kind)) (hk : SameKd kd (ags.map Ag.kind)) :
    ∃ M, At (Cn.zero Γ.K) ⟨G, H, M⟩ (pickA δ ags ds) G H (vs.map some) ∧ ∀ outs s v G' H', At (Cn.zero Γ.K) ⟨G, H, M⟩ (backS (pickA δ ags ds) kd outs ++ [s]) G' H' (vs.map some ++ [some v]) →
      At Γ F (backS δ (ags.map Ag.kind) outs ++ [s]) G' H' (σ ++ [some v]) := by
  obtain ⟨fp, h1, h2, h3, h4⟩ := a.own
  let ks := ags.map Ag.kind
  have lks : ks.length = ags.length := by simp [ks]
  have pl : (pickA δ ags ds).length = ags.length := r.pickLen
  have vl : vs.length = ags.length := r.len
  have jlt : ∀ {k j : Nat}, ks[k]? = some (some j) → k < ags.length ∧ j < δ.length ∧ ∃ v, vs[k]? = some v ∧ σ[j]? = some (some v) ∧ (pickA δ ags ds)[k]? = δ[j]? := fun {k j} h => by
    have hkl : k < ags.length := by rw [← lks]; exact (List.getElem?_eq_some_iff.mp h).1
    rcases r.at_ (δ := δ) (k := k) (List.getElem?_eq_getElem (by rw [pl]; exact hkl)) with ⟨v, d, _, _, _, e⟩ | ⟨v, j', e, es, ev, eσ⟩
    · rw [h] at e; cases e
    · rw [h] at e
      cases e
      have hjl : j < δ.length := by rw [← a.len]; exact (List.getElem?_eq_some_iff.mp eσ).1
      refine ⟨hkl, hjl, v, ev, eσ, ?_⟩
      rw [List.getElem?_eq_getElem (by rw [pl]; exact hkl), es, List.getD_eq_getElem?_getD, List.getElem?_eq_getElem hjl]
      rfl
  let M : Addr → Prop := fun b => ∃ k j : Nat, ks[k]? = some (some j) ∧ b ∈ fp j
  have hM : ∀ b, M b → H b ≠ none ∧ G b = none ∧ (F.H0 b = none ∨ F.M b) := fun b ⟨k, j, e, hb⟩ => by
    obtain ⟨_, hj, _⟩ := jlt e
    exact ⟨(h1 j _ (List.getElem?_eq_getElem hj)).live hb, h4 j b hb⟩
  let fa : Nat → List Addr := fun k => match ks[k]? with
    | some (some j) => fp j
    | _ => []
  have fa_some : ∀ {k j : Nat}, ks[k]? = some (some j) → fa k = fp j := fun {k j} e => by show (match ks[k]? with | some (some j) => fp j | _ => []) = fp j; rw [e]
  have fa_mem : ∀ {k : Nat} {b : Addr}, b ∈ fa k → ∃ j, ks[k]? = some (some j) ∧ b ∈ fp j := fun {k b} hb => by
    have hb : b ∈ (match ks[k]? with | some (some j) => fp j | _ => []) := hb
    split at hb
    · rename_i j e; exact ⟨j, e, hb⟩
    · cases hb
  refine ⟨M, ⟨a.sub, Same.refl G, fun b u e g m => ⟨g, e⟩, fun b h => h, by rw [List.length_map, pl, vl], Nat.zero_le _, (fun i hi => nomatch hi), fa, fun k s hs => ?_, fun k hk' => ?_, fun k l b hb hb' => ?_, fun k b hb => ?_⟩, fun outs s v G' H' a' => ?_⟩
  · rw [List.getElem?_map]
    rcases r.at_ (δ := δ) hs with ⟨u, d, rfl, ev, rd, e⟩ | ⟨u, j, e, rfl, ev, eσ⟩
    · rw [ev]
      refine ⟨?_, u, rfl, rd⟩
      show (match ks[k]? with | some (some j) => fp j | _ => []) = []
      rw [show ks[k]? = some none from e]
    · rw [ev, fa_some e]
      obtain ⟨_, hj, _⟩ := jlt e
      have := h1 j _ (List.getElem?_eq_getElem hj)
      rw [eσ] at this
      rw [List.getD_eq_getElem?_getD, List.getElem?_eq_getElem hj]
      exact this
  · rw [pl] at hk'
    show (match ks[k]? with | some (some j) => fp j | _ => []) = []
    rw [List.getElem?_eq_none (by rw [lks]; exact hk')]
  · obtain ⟨j, e1, e2⟩ := fa_mem hb
    obtain ⟨j', e3, e4⟩ := fa_mem hb'
    have := h3 j j' b e2 e4
    subst this
    exact hu j k l e1 e3
  · obtain ⟨j, e1, e2⟩ := fa_mem hb
    exact ⟨(h4 j b e2).1, .inr ⟨k, j, e1, e2⟩⟩
  · obtain ⟨fq, k1, k2, k3, k4⟩ := a'.own
    have plen : (backS (pickA δ ags ds) kd outs).length = ags.length := by rw [backS_len, pl]
    have nM : ∀ {j : Nat} {b : Addr}, b ∈ fp j → (∀ k : Nat, ks[k]? ≠ some (some j)) → ¬ M b := fun {j b} hb hj ⟨k, j', e, hb'⟩ => by
      have := h3 j j' b hb hb'
      subst this
      exact hj k e
    have lt : ∀ {j : Nat} {b : Addr}, b ∈ fp j → j < δ.length := fun {j b} hb => by
      apply Classical.byContradiction
      intro z
      rw [h2 j (by omega)] at hb
      cases hb
    have stay : ∀ {j : Nat} {b : Addr}, b ∈ fp j → (∀ k : Nat, ks[k]? ≠ some (some j)) → G' b = none ∧ H' b = H b := fun {j b} hb hj => by
      cases q : H b with
      | none => exact absurd q ((h1 j _ (List.getElem?_eq_getElem (lt hb))).live hb)
      | some u => exact a'.fr b u q (h4 j b hb).1 (nM hb hj)
    have base : ∀ {i : Nat} {b : Addr}, b ∈ fq i → G' b = none ∧ (F.H0 b = none ∨ F.M b) := fun {i b} hb => by
      obtain ⟨z1, z2⟩ := k4 i b hb
      refine ⟨z1, ?_⟩
      rcases z2 with z2 | z2
      · exact .inl (a.h0 z2)
      · exact (hM b z2).2.2
    -- the footprint of slot j afterwards
    let sel : Nat → Option Nat := fun j => (List.range ags.length).find? fun k => decide (ks[k]? = some (some j))
    have sel_some : ∀ {j k : Nat}, sel j = some k → ks[k]? = some (some j) := fun {j k} h => by
      have := List.find?_some h
      simpa using this
    have sel_none : ∀ {j : Nat}, sel j = none → ∀ k : Nat, ks[k]? ≠ some (some j) := fun {j} h k e => by
      have hk' := (jlt e).1
      have := List.find?_eq_none.mp h k (List.mem_range.mpr hk')
      exact this (by simpa using e)
    let fz : Nat → List Addr := fun j => if j = δ.length then fq ags.length else match sel j with
      | some k => fq k
      | none => fp j
    have fz_last : fz δ.length = fq ags.length := if_pos rfl
    have fz_some : ∀ {j k : Nat}, j ≠ δ.length → sel j = some k → fz j = fq k := fun {j k} hj e => by show (if j = δ.length then _ else match sel j with | some k => fq k | none => fp j) = _; rw [if_neg hj, e]
    have fz_none : ∀ {j : Nat}, j ≠ δ.length → sel j = none → fz j = fp j := fun {j} hj e => by show (if j = δ.length then _ else match sel j with | some k => fq k | none => fp j) = _; rw [if_neg hj, e]
    -- each address of fz belongs to one place of the callee's, or stayed
    have who : ∀ {j : Nat} {b : Addr}, b ∈ fz j → (j = δ.length ∧ b ∈ fq ags.length) ∨ (j ≠ δ.length ∧ ∃ k, sel j = some k ∧ b ∈ fq k) ∨ (j ≠ δ.length ∧ sel j = none ∧ b ∈ fp j) := fun {j b} hb => by
      by_cases q : j = δ.length
      · rw [q, fz_last] at hb
        exact .inl ⟨q, hb⟩
      · cases e : sel j with
        | some k => rw [fz_some q e] at hb; exact .inr (.inl ⟨q, k, rfl, hb⟩)
        | none => rw [fz_none q e] at hb; exact .inr (.inr ⟨q, rfl, hb⟩)
    have apart : ∀ {i j : Nat} {b : Addr}, b ∈ fq i → sel j = none → b ∈ fp j → False := fun {i j b} hb e hb' => by
      rcases (k4 i b hb).2 with z | z
      · exact (h1 j _ (List.getElem?_eq_getElem (lt hb'))).live hb' z
      · exact nM hb' (sel_none e) z
    refine ⟨a'.sub, a.g0.trans a'.g0, fun b u e g m => ?_, fun b h => a'.live b (a.live b h), ?_, ?_, fun i hi => ?_, fz, fun j t ht => ?_, fun j hj => ?_, fun i j b hi hj => ?_, fun j b hb => ?_⟩
    · obtain ⟨z1, z2⟩ := a.fr b u e g m
      refine a'.fr b u z2 z1 fun z => ?_
      rcases (hM b z).2.2 with q | q
      · rw [q] at e; cases e
      · exact m q
    · rw [List.length_append, List.length_append, backS_len, a.len]
      rfl
    · rw [List.length_append, backS_len]
      exact Nat.le_trans a.nl (Nat.le_add_right _ _)
    · have := a.pin i hi
      rw [List.getElem?_append_left (List.getElem?_eq_some_iff.mp this).1]
      exact this
    · rw [get_app, backS_len] at ht
      by_cases q : j < δ.length
      · rw [if_pos q] at ht
        rw [List.getElem?_append_left (by rw [a.len]; exact q)]
        cases e : sel j with
        | some k =>
          have ek := sel_some e
          rw [backS_some q ek (fun k l => hu j k l)] at ht
          obtain ⟨hkl, _, v', ev, eσ, ep⟩ := jlt ek
          obtain ⟨j', ej'⟩ := (hk k).2.mpr ⟨j, ek⟩
          have := (hk k).1 j' ej'
          subst this
          have hb := backS_some (δ := pickA δ ags ds) (j := j') (by rw [pl]; exact hkl) (as := outs) ej' (fun a b ha hb => by rw [← (hk a).1 j' ha, ← (hk b).1 j' hb])
          have ht' : (backS (pickA δ ags ds) kd outs ++ [s])[j']? = some t := by
            rw [List.getElem?_append_left (by rw [plen]; exact hkl), hb, ep]
            exact ht
          have z := k1 j' t ht'
          rw [List.getElem?_append_left (by rw [List.length_map, vl]; exact hkl), List.getElem?_map, ev] at z
          rw [fz_some (by omega) e, eσ]
          exact z
        | none =>
          rw [backS_none (sel_none e)] at ht
          rw [fz_none (by omega) e]
          exact (h1 j t ht).mono a'.g0 fun b hb => (stay hb (sel_none e)).2
      · rw [if_neg q] at ht
        by_cases q2 : j = δ.length
        · rw [if_pos q2] at ht
          cases ht
          subst q2
          have z := k1 ags.length s (by rw [get_app, plen, if_neg (by omega), if_pos rfl])
          rw [get_app, List.length_map, vl, if_neg (by omega), if_pos rfl] at z
          rw [fz_last, get_app, a.len, if_neg (by omega), if_pos rfl]
          exact z
        · rw [if_neg q2] at ht
          cases ht
    · rw [List.length_append, backS_len, List.length_singleton] at hj
      have hs : sel j = none := by
        cases e : sel j with
        | none => rfl
        | some k => have := (jlt (sel_some e)).2.1; omega
      rw [fz_none (by omega) hs]
      exact h2 j (by omega)
    · have sep : ∀ {k l : Nat}, b ∈ fq k → b ∈ fq l → k = l := fun {k l} => k3 k l b
      rcases who hi with ⟨q1, q2⟩ | ⟨q1, k, q2, q3⟩ | ⟨q1, q2, q3⟩
      · rcases who hj with ⟨w1, w2⟩ | ⟨w1, l, w2, w3⟩ | ⟨w1, w2, w3⟩
        · omega
        · have := sep q2 w3
          have := (jlt (sel_some w2)).1
          omega
        · exact (apart q2 w2 w3).elim
      · rcases who hj with ⟨w1, w2⟩ | ⟨w1, l, w2, w3⟩ | ⟨w1, w2, w3⟩
        · have := sep q3 w2
          have := (jlt (sel_some q2)).1
          omega
        · have e := sep q3 w3
          subst e
          have h5 := sel_some q2
          have h6 := sel_some w2
          rw [h5] at h6
          exact Option.some.inj (Option.some.inj h6)
        · exact (apart q3 w2 w3).elim
      · rcases who hj with ⟨w1, w2⟩ | ⟨w1, l, w2, w3⟩ | ⟨w1, w2, w3⟩
        · exact (apart w2 q2 q3).elim
        · exact (apart w3 q2 q3).elim
        · exact h3 i j b q3 w3
    · rcases who hb with ⟨q1, q2⟩ | ⟨q1, k, q2, q3⟩ | ⟨q1, q2, q3⟩
      · exact base q2
      · exact base q3
      · exact ⟨(stay q3 (sel_none q2)).1, (h4 j b q3).2⟩
end
section
variable {X : Cx} {Γ : Cn} {F : Fm} [L : Lk X Γ]
variable {e : Expr} {es : List Expr} {pos p : Pos} {m : M Dt} {x : Str} {ags : List Ag} {j k n : Nat} {kd : List (Option Nat)} {c : List Sv → Res Sv}
theorem so_call {ta : TA} {E : XK} (hl : ags.length = n) (hu : ((ags.map Ag.kind).filterMap id).Nodup) (hk : kd = kdOf 0 (ags.map Ag.kind)) (ha : SoAg Γ ta ags) : SoV Γ (tCall (spM Γ.K n kd c) [] E ta) (mCall c ags) := fun F δ G H σ Q at_ k =>
  ha F δ G H σ _ at_ ((OkR.bnd k).imp fun ds δ1 G1 s1 k1 vs H1 a1 r1 => by
    show spM Γ.K n kd c (vs ++ []) H1 Q E
    rw [List.append_nil]
    obtain ⟨M, a2, back⟩ := a1.call r1 (once_of hu) (sameKd_of hk)
    refine ⟨r1.len.trans hl, G1, M, _, a2, fun k s hs => ?_, ?_⟩
    · rcases r1.at_ hs with ⟨u, d, rfl, _⟩ | ⟨u, j, e, _⟩
      · exact .inl ⟨d, rfl⟩
      · exact .inr ((sameKd_of hk k).2.mpr ⟨j, e⟩)
    cases q : c (pickA δ1 ags ds) with
    | ok s outs =>
      rw [q] at k1
      exact fun v G' H' sG a3 => k1 G' sG v H' (back outs s v G' H' a3)
    | exc x outs => rw [q] at k1; exact k1.elim
    | bad => rw [q] at k1; exact k1.elim)
theorem qo_call (cl : Cl X.prog X.w X.K X.mg X.base k x (spM X.K n kd c)) (hr : Room j X.A) (hkj : k ≤ j) (hg : Gl X x) (ha : PAg X Γ (e :: es) ags) (hl : ags.length = n := by rfl) (hu : ((ags.map Ag.kind).filterMap id).Nodup := by simp [Ag.kind]) (hk : kd = kdOf 0 (ags.map Ag.kind) := by rfl)
    (hdb : (x == ("__debug__" : Str)) = false := by decide) (he : starEach (e :: es) X.env = (false, eval e X.env) :: starEach es X.env := by rfl) (hpl : (backTo pos (starEach es X.env)).any (·.1) = false := by rfl) : PV X Γ (.Call (.Name x p) (e :: es) [] pos) (mCall c ags) := by
  obtain ⟨ta, h1, h2⟩ := ha
  refine ⟨_, pe_cl cl hr hkj hg h1 hdb he hpl, ?_⟩
  rw [L.k]
  exact so_call hl hu hk h2
theorem qo_callG (cl : ClG X.prog X.w X.K X.mg X.base k x (spM X.K n kd c)) (hgd : X.A.guards = some []) (hr : Room j X.A) (hkj : k ≤ j) (hg : Gl X x) (ha : PAg X Γ (e :: es) ags) (hl : ags.length = n := by rfl) (hu : ((ags.map Ag.kind).filterMap id).Nodup := by simp [Ag.kind]) (hk : kd = kdOf 0 (ags.map Ag.kind) := by rfl)
    (hdb : (x == ("__debug__" : Str)) = false := by decide) (he : starEach (e :: es) X.env = (false, eval e X.env) :: starEach es X.env := by rfl) (hpl : (backTo pos (starEach es X.env)).any (·.1) = false := by rfl) : PV X Γ (.Call (.Name x p) (e :: es) [] pos) (mCall c ags) := by
  obtain ⟨ta, h1, h2⟩ := ha
  refine ⟨_, pe_clG cl hgd hr hkj hg h1 hdb he hpl, ?_⟩
  rw [L.k]
  exact so_call hl hu hk h2
theorem qo_call0 (cl : Cl X.prog X.w X.K X.mg X.base k x (spM X.K n kd c)) (hr : Room j X.A) (hkj : k ≤ j) (hg : Gl X x) (hl : 0 = n := by rfl) (hk : kd = [] := by rfl) (hdb : (x == ("__debug__" : Str)) = false := by decide) : PV X Γ (.Call (.Name x p) [] [] pos) (mCall c []) := by
  refine ⟨_, pe_cl0 cl hr hkj hg hdb, ?_⟩
  rw [L.k]
  exact so_call hl (by simp) hk fun F δ G H σ Q a k => k G (Same.refl _) [] H a .nil
end
/-! ### from a body to its promise -/
def fnOf (N n q : Nat) (m : M Fl) : List Sv → Res Sv := fun args => match m (args ++ List.replicate (N - n) .un) with
  | .ok (.rt s) δ => .ok s (δ.take q)
  | .ok .nx δ => .ok (.dat .non) (δ.take q)
  | _ => .bad
section
variable {K : PySem.W.Frag} {F : Fm} {G H G' H' : Hp} {vs : List V} {args δ1 : List Sv} {kd : List (Option Nat)} {N q : Nat}
theorem rep_get {α : Type} {l : List α} {n i : Nat} {x : α} : (l ++ List.replicate n x)[i]? = if i < l.length then l[i]? else if i < l.length + n then some x else none := by
  rw [List.getElem?_append]
  split
  · rfl
  · rw [List.getElem?_replicate]
    split <;> split <;> first | rfl | omega
theorem At.enter {Γ : Cn} (hK : Γ.K = K) (a : At (Cn.zero K) F args G H (vs.map some)) {k : Nat} (hn : Γ.n ≤ args.length + k) (hp : ∀ i ∈ Γ.ps, vs[i]? = some (Γ.pv i)) : At Γ F (args ++ List.replicate k .un) G H (vs.map some ++ List.replicate k none) := by
  obtain ⟨fp, h1, h2, h3, h4⟩ := a.own
  have len : vs.length = args.length := by have := a.len; simpa using this
  refine ⟨a.sub, a.g0, a.fr, a.live, by simp [len], by simpa using hn, fun i hi => ?_, fp, fun i s hs => ?_, fun i hi => h2 i (by simp at hi; omega), h3, h4⟩
  · have := hp i hi
    rw [List.getElem?_append_left (by rw [List.length_map]; exact (List.getElem?_eq_some_iff.mp this).1), List.getElem?_map, this]
    rfl
  · rw [rep_get] at hs
    by_cases q : i < args.length
    · rw [if_pos q] at hs
      rw [List.getElem?_append_left (by rw [List.length_map, len]; exact q)]
      have := h1 i s hs
      rw [hK]
      exact this
    · rw [if_neg q] at hs
      split at hs
      · cases hs
        exact h2 i (by omega)
      · cases hs
theorem At.exit {Γ : Cn} {s : Sv} {v : V} {σ' : L2.St} (hK : Γ.K = K) (a0 : At (Cn.zero K) F args G H (vs.map some)) (sG : Same G G') (hA : ∀ (k : Nat) s, args[k]? = some s → (∃ d, s = .dat d) ∨ ∃ j, kd[k]? = some (some j)) (hkd : ∀ k j : Nat, kd[k]? = some (some j) → j = k ∧ k < q ∧ k ∈ Γ.ps)
    (hp : ∀ i ∈ Γ.ps, vs[i]? = some (Γ.pv i)) (hn : Γ.n ≤ δ1.length) (a : At Γ F (δ1 ++ [s]) G' H' (σ' ++ [some v])) : At (Cn.zero K) F (backS args kd (δ1.take q) ++ [s]) G' H' (vs.map some ++ [some v]) := by
  obtain ⟨fp, h1, h2, h3, h4⟩ := a.own
  have len : vs.length = args.length := by have := a0.len; simpa using this
  have len1 : σ'.length = δ1.length := by simpa using a.len
  -- a parameter that may change
  have io : ∀ {k j : Nat}, kd[k]? = some (some j) → k < args.length → (backS args kd (δ1.take q))[k]? = δ1[k]? ∧ k < δ1.length ∧ σ'[k]? = some vs[k]? := fun {k j} e hk => by
    obtain ⟨rfl, hq, hps⟩ := hkd k j e
    have hk1 : j < δ1.length := Nat.lt_of_lt_of_le (Γ.hps j hps) hn
    refine ⟨?_, hk1, ?_⟩
    · rw [backS_some hk e (fun k l h5 h6 => by rw [← (hkd k j h5).1, ← (hkd l j h6).1]), List.length_take, if_pos (by omega), List.getElem?_take, if_pos hq]
    · have := a.pin j hps
      rw [List.getElem?_append_left (by rw [len1]; exact hk1)] at this
      rw [this, hp j hps]
  have non : ∀ {k : Nat}, (∀ j, kd[k]? ≠ some (some j)) → (backS args kd (δ1.take q))[k]? = args[k]? := fun {k} h => backS_none fun l e => by
    obtain ⟨e2, _⟩ := hkd l k e
    subst e2
    exact h k e
  let isio : Nat → Bool := fun k => match kd[k]? with
    | some (some _) => true
    | _ => false
  have isio_t : ∀ {k : Nat}, isio k = true → ∃ j, kd[k]? = some (some j) := fun {k} h => by
    have h : (match kd[k]? with | some (some _) => true | _ => false) = true := h
    split at h
    · rename_i j e; exact ⟨j, e⟩
    · cases h
  have isio_f : ∀ {k : Nat}, isio k = false → ∀ j, kd[k]? ≠ some (some j) := fun {k} h j e => by
    have h : (match kd[k]? with | some (some _) => true | _ => false) = false := h
    rw [e] at h
    cases h
  let fa : Nat → List Addr := fun k => if k = args.length then fp δ1.length else if k < args.length ∧ isio k = true then fp k else []
  have fa_who : ∀ {k : Nat} {b : Addr}, b ∈ fa k → ∃ k', b ∈ fp k' ∧ ((k = args.length ∧ k' = δ1.length) ∨ (k < args.length ∧ k' = k ∧ k < δ1.length)) := fun {k b} hb => by
    have hb : b ∈ (if k = args.length then fp δ1.length else if k < args.length ∧ isio k = true then fp k else []) := hb
    split at hb
    · exact ⟨_, hb, .inl ⟨by assumption, rfl⟩⟩
    · split at hb
      · rename_i hk
        obtain ⟨j, e⟩ := isio_t hk.2
        exact ⟨k, hb, .inr ⟨hk.1, rfl, (io e hk.1).2.1⟩⟩
      · cases hb
  refine ⟨a.sub, a.g0, a.fr, a.live, by rw [List.length_append, List.length_append, List.length_map, backS_len, len]; rfl, Nat.zero_le _, (fun i hi => nomatch hi), fa, fun k t ht => ?_, fun k hk => ?_, fun k l b hk hl => ?_, fun k b hb => ?_⟩
  · rw [get_app, backS_len] at ht
    by_cases hk : k < args.length
    · rw [if_pos hk] at ht
      rw [List.getElem?_append_left (by rw [List.length_map, len]; exact hk), List.getElem?_map]
      have hne : ¬ k = args.length := by omega
      cases e : isio k with
      | true =>
        obtain ⟨j, ej⟩ := isio_t e
        obtain ⟨w1, w2, w3⟩ := io ej hk
        rw [w1] at ht
        have z := h1 k t (by rw [List.getElem?_append_left w2]; exact ht)
        rw [List.getElem?_append_left (by rw [len1]; exact w2), w3] at z
        have ev : fa k = fp k := by show (if k = args.length then _ else if k < args.length ∧ isio k = true then fp k else []) = _; rw [if_neg hne, if_pos ⟨hk, e⟩]
        rw [ev, ← hK]
        rw [show Option.map some vs[k]? = some vs[k]? from by rw [List.getElem?_eq_getElem (by omega)]; rfl]
        exact z
      | false =>
        rw [non (isio_f e)] at ht
        have ev : fa k = [] := by show (if k = args.length then _ else if k < args.length ∧ isio k = true then fp k else []) = _; rw [if_neg hne, if_neg (fun z => by rw [e] at z; cases z.2)]
        rw [ev]
        rcases hA k t ht with ⟨d, rfl⟩ | ⟨j, ej⟩
        · obtain ⟨u, z1, z2⟩ := a0.dat ht
          rw [List.getElem?_map] at z1
          rw [z1]
          exact ⟨rfl, u, rfl, z2.mono sG⟩
        · exact absurd ej (isio_f e j)
    · rw [if_neg hk] at ht
      by_cases hk2 : k = args.length
      · rw [if_pos hk2] at ht
        cases ht
        subst hk2
        have z := h1 δ1.length s (by rw [get_app, if_neg (by omega), if_pos rfl])
        rw [get_app, len1, if_neg (by omega), if_pos rfl] at z
        rw [get_app, List.length_map, len, if_neg (by omega), if_pos rfl, ← hK]
        have ev : fa args.length = fp δ1.length := if_pos rfl
        rw [ev]
        exact z
      · rw [if_neg hk2] at ht
        cases ht
  · rw [List.length_append, backS_len, List.length_singleton] at hk
    show (if k = args.length then _ else if k < args.length ∧ isio k = true then fp k else []) = []
    rw [if_neg (by omega), if_neg (by omega)]
  · obtain ⟨k', e1, e2⟩ := fa_who hk
    obtain ⟨l', e3, e4⟩ := fa_who hl
    have := h3 k' l' b e1 e3
    omega
  · obtain ⟨k', e1, e2⟩ := fa_who hb
    exact h4 k' b e1
end
section
variable {P : Program} {w : World} {K : PySem.W.Frag} {mg : Str → Option Value} {base : Heap} {k q : Nat} {x qual : Str} {st : Stmt} {f : Addr} {fd : FuncData} {N ps : List Str} {kd : List (Option Nat)} {m : M Fl}
theorem body_run {X : Cx} {body : List Stmt} {vs : List V} {H : Hp} {Q : VK} {E : XK} (hKX : X.K = K) (hcalm : X.calm = true) (hun : X.A.units + 65 < cLine) (hN : ps.length ≤ N.length) (hkd : ∀ k j : Nat, kd[k]? = some (some j) → j = k ∧ k < q ∧ k < ps.length)
    (hb : ∀ Γ : Cn, Γ.K = K → Γ.ps = kd.filterMap id → Γ.n = N.length → Lk X Γ → PQs X Γ body m) (h : spM K ps.length kd (fnOf N.length ps.length q m) vs H Q E) :
    ∃ t, PSs X body t ∧ t { nx := fun _ H' => Q .non H', rt := Q } (L2.start N vs) H := by
  obtain ⟨hl, G, M, args, a, hA, hc⟩ := h
  have len : vs.length = args.length := by have := a.len; simpa using this
  have mem : ∀ i ∈ kd.filterMap id, i < ps.length := fun i hi => by
    obtain ⟨o, ho, e⟩ := List.mem_filterMap.mp hi
    obtain ⟨k, hk⟩ := List.getElem?_of_mem ho
    have e : o = some i := e
    subst e
    obtain ⟨rfl, _, h3⟩ := hkd k i hk
    exact h3
  let Γ : Cn := ⟨K, fun _ _ _ _ => False, kd.filterMap id, fun i => vs.getD i .non, N.length, fun i hi => Nat.lt_of_lt_of_le (mem i hi) hN⟩
  have hp : ∀ i ∈ Γ.ps, vs[i]? = some (Γ.pv i) := fun i hi => by
    have := mem i hi
    show vs[i]? = some (vs.getD i .non)
    rw [List.getD_eq_getElem?_getD, List.getElem?_eq_getElem (by omega)]
    rfl
  obtain ⟨ts, h1, h2⟩ := hb Γ rfl rfl rfl ⟨hKX, hcalm, hun⟩
  refine ⟨ts, h1, ?_⟩
  have a0 : At Γ ⟨G, H, M⟩ (args ++ List.replicate (N.length - ps.length) .un) G H (L2.start N vs) := by
    have := At.enter (Γ := Γ) rfl a (k := N.length - ps.length) (by show N.length ≤ args.length + (N.length - ps.length); omega) hp
    unfold L2.start
    rw [hl]
    exact this
  refine h2 _ _ G H _ _ a0 ?_
  have hkd2 : ∀ k j : Nat, kd[k]? = some (some j) → j = k ∧ k < q ∧ k ∈ Γ.ps := fun k j e => by
    obtain ⟨e1, e2, e3⟩ := hkd k j e
    subst e1
    exact ⟨rfl, e2, List.mem_filterMap.mpr ⟨some j, List.mem_of_getElem? e, rfl⟩⟩
  unfold fnOf at hc
  cases e : m (args ++ List.replicate (N.length - ps.length) .un) with
  | bad => rw [e] at hc; exact hc.elim
  | exc x δ => rw [e] at hc; exact hc.elim
  | ok fl δ =>
    rw [e] at hc
    intro G' sG
    cases fl with
    | nx => exact fun σ' H' a1 => hc .non G' H' sG (At.exit (s := .dat .non) (v := .non) rfl a sG hA hkd2 hp a1.nl (a1.pushD .non))
    | bk => exact hc.elim
    | ct => exact hc.elim
    | rt s => exact fun v σ' H' hn a1 => hc v G' H' sG (At.exit rfl a sG hA hkd2 hp hn a1)
theorem fnO (Fn : Fun K x qual st f fd) (S : FnScope N ps (defScope st)) (hN : ps.length ≤ N.length) (hkd : ∀ k j : Nat, kd[k]? = some (some j) → j = k ∧ k < q ∧ k < ps.length)
    (hb : ∀ (cdv : Value) (A : Around) (outer : List Env) (s : Shared) (H : Hp) (E : XK) (Γ : Cn), Room k (A.deeper (envOfC qual (defScope st) s.heap.objs.size f cdv)) → Γ.K = K → Γ.ps = kd.filterMap id → Γ.n = N.length →
      Lk (cxOf L2.CX0 P w K mg base N qual (defScope st) f cdv A outer s H E).nox Γ → PQs (cxOf L2.CX0 P w K mg base N qual (defScope st) f cdv A outer s H E).nox Γ (defBody st) m) :
    FnOk P w K mg base L2.CX0 (k + 1) f fd ps (spM K ps.length kd (fnOf N.length ps.length q m)) :=
  Fn.ok S (fun vs H Q E h => h.1) fun cdv A outer s H vs Q E hr h => body_run rfl rfl hr.units65 hN hkd (fun Γ h1 h2 h3 h4 => hb cdv A outer s H E Γ hr h1 h2 h3 h4) h
theorem fnG (Fn : Fun K x qual st f fd) (S : FnScope N ps (defScope st)) (hN : ps.length ≤ N.length) (hkd : ∀ k j : Nat, kd[k]? = some (some j) → j = k ∧ k < q ∧ k < ps.length)
    (hb : ∀ (cdv : Value) (A : Around) (outer : List Env) (s : Shared) (H : Hp) (E : XK) (Γ : Cn), Room k (A.deeper (envOfC qual (defScope st) s.heap.objs.size f cdv)) → A.guards = some [] → Γ.K = K → Γ.ps = kd.filterMap id → Γ.n = N.length →
      Lk (cxOf L2.CX0 P w K mg base N qual (defScope st) f cdv A outer s H E).nox Γ → PQs (cxOf L2.CX0 P w K mg base N qual (defScope st) f cdv A outer s H E).nox Γ (defBody st) m) :
    Pg.FnG P w K mg base (k + 1) f fd ps (spM K ps.length kd (fnOf N.length ps.length q m)) :=
  Pg.fnG_of Fn S (fun vs H Q E h => h.1) fun cdv A outer s H vs Q E hr hgd h => body_run rfl rfl hr.units65 hN hkd (fun Γ h1 h2 h3 h4 => hb cdv A outer s H E Γ hr hgd h1 h2 h3 h4) h
end
end Qm

set_option Elab.async false
set_option linter.all false
set_option maxRecDepth 100000
set_option maxHeartbeats 2000000
namespace Qm
open PySem PySem.Spec PyProof.Rows L2 Pd

section
variable {K : PySem.W.Frag}
/-! ### built-in functions of data -/
def lenD : Dt → Option Dt
  | .str z => if z.length ≤ 100000 then some (.int (z.length : Nat)) else none
  | .lst xs => some (.int (xs.length : Nat))
  | .tup xs => some (.int (xs.length : Nat))
  | .scr ns => some (.int (ns.length : Nat))
  | _ => none
theorem cs_len : CS1 K (Pd.rLen K) lenD := fun x z h => by
  unfold lenD at h
  split at h
  · split at h
    · cases h; exact cd_lenS (by assumption) rfl
    · cases h
  · cases h; exact cd_lenL rfl
  · cases h; exact cd_lenT rfl
  · cases h; exact cd_lenScr rfl
  · cases h
def intD : Dt → Option Dt
  | .int i => some (.int i)
  | .bl b => some (.int (if b then 1 else 0))
  | _ => none
theorem cs_int : CS1 K rInt1 intD := fun x z h => by
  unfold intD at h
  split at h
  · cases h; exact cd_int rfl
  · cases h; exact cd_intB rfl
  · cases h
def absD : Dt → Option Dt
  | .int i => some (.int (if i < 0 then -i else i))
  | _ => none
theorem cs_abs : CS1 K rAbs absD := fun x z h => by
  unfold absD at h
  split at h
  · cases h; exact cd_abs rfl
  · cases h
def maxD : Dt → Dt → Option Dt
  | .int i, .int j => some (.int (if j > i then j else i))
  | _, _ => none
def minD : Dt → Dt → Option Dt
  | .int i, .int j => some (.int (if j < i then j else i))
  | _, _ => none
theorem cs_max : CS2 K rMax2 maxD := fun x y z h => by
  unfold maxD at h
  split at h
  · cases h; exact cd_max2 rfl
  · cases h
theorem cs_min : CS2 K rMin2 minD := fun x y z h => by
  unfold minD at h
  split at h
  · cases h; exact cd_min2 rfl
  · cases h
def blsOf : List Dt → Option (List Bool)
  | [] => some []
  | .bl b :: ds => (blsOf ds).map (b :: ·)
  | _ :: _ => none
theorem blsOf_some : ∀ {ds : List Dt} {bs : List Bool}, blsOf ds = some bs → ds = bs.map Dt.bl
  | [], bs, h => by cases h; rfl
  | d :: ds, bs, h => by
    cases d with
    | bl b =>
      unfold blsOf at h
      cases q : blsOf ds with
      | none => rw [q] at h; cases h
      | some cs => rw [q] at h; cases h; rw [blsOf_some q]; rfl
    | _ => cases h
@[simp] theorem blsOf_map (bs : List Bool) : blsOf (bs.map Dt.bl) = some bs := by
  induction bs with
  | nil => rfl
  | cons b bs ih => rw [List.map_cons, blsOf, ih]; rfl
def allD : Dt → Option Dt
  | .lst ds => (blsOf ds).map fun bs => .bl (bs.all id)
  | _ => none
def anyD : Dt → Option Dt
  | .lst ds => (blsOf ds).map fun bs => .bl (bs.any id)
  | _ => none
theorem cs_all : CS1 K (rAll K) allD := fun x z h => by
  unfold allD at h
  split at h
  · rename_i ds
    cases q : blsOf ds with
    | none => rw [q] at h; cases h
    | some bs => rw [q] at h; cases h; rw [blsOf_some q]; exact cd_all rfl
  · cases h
theorem cs_any : CS1 K (rAny K) anyD := fun x z h => by
  unfold anyD at h
  split at h
  · rename_i ds
    cases q : blsOf ds with
    | none => rw [q] at h; cases h
    | some bs => rw [q] at h; cases h; rw [blsOf_some q]; exact cd_any rfl
  · cases h
def intsOf : List Dt → Option (List Int)
  | [] => some []
  | .int b :: ds => (intsOf ds).map (b :: ·)
  | _ :: _ => none
theorem intsOf_some : ∀ {ds : List Dt} {bs : List Int}, intsOf ds = some bs → ds = bs.map Dt.int
  | [], bs, h => by cases h; rfl
  | d :: ds, bs, h => by
    cases d with
    | int b =>
      unfold intsOf at h
      cases q : intsOf ds with
      | none => rw [q] at h; cases h
      | some cs => rw [q] at h; cases h; rw [intsOf_some q]; rfl
    | _ => cases h
@[simp] theorem intsOf_map (bs : List Int) : intsOf (bs.map Dt.int) = some bs := by
  induction bs with
  | nil => rfl
  | cons b bs ih => rw [List.map_cons, intsOf, ih]; rfl
def sumD : Dt → Option Dt
  | .lst ds => (intsOf ds).map fun ns => .int ns.sum
  | _ => none
theorem cs_sum : CS1 K (rSum K) sumD := fun x z h => by
  unfold sumD at h
  split at h
  · rename_i ds
    cases q : intsOf ds with
    | none => rw [q] at h; cases h
    | some ns =>
      rw [q] at h
      cases h
      rw [intsOf_some q]
      exact cd_of (fun G H vs Q g hv k => by
        obtain ⟨v, rfl, r⟩ := dv1 hv
        obtain ⟨a, us, rfl, h1, r1⟩ := r.lst g
        have := drall_int r1
        subst this
        exact ⟨a, ns, rfl, SqL.of h1, k _ (.int _)⟩) rfl
  · cases h
def tupD : Dt → Option Dt
  | .lst ds => some (.tup ds)
  | .tup ds => some (.tup ds)
  | _ => none
theorem cs_tup : CS1 K (rTupOf K) tupD := fun x z h => by
  unfold tupD at h
  split at h
  · cases h; exact cd_tupL rfl
  · cases h; exact cd_tupT rfl
  · cases h
def lstD : Dt → Option Dt
  | .lst ds => some (.lst ds)
  | .tup ds => some (.lst ds)
  | _ => none
theorem cs_lst : CS1 K (rLstOf K) lstD := fun x z h => by
  unfold lstD at h
  split at h
  · cases h
    intro G H vs Q g hv k
    obtain ⟨v, rfl, r⟩ := dv1 hv
    obtain ⟨a, us, rfl, h1, r1⟩ := r.lst g
    exact ⟨a, us, rfl, .inl (SqL.of h1), fun l hl => k _ _ (upd G l (.lst us)) _ (Fr.new g hl) (g.new hl) (.lst upd_same (r1.mono (same_new (g.gn hl)))) rfl⟩
  · cases h
    intro G H vs Q g hv k
    obtain ⟨v, rfl, r⟩ := dv1 hv
    obtain ⟨a, us, rfl, h1, r1⟩ := r.tup
    exact ⟨a, us, rfl, .inr (sqT_mono g.sub h1), fun l hl => k _ _ (upd G l (.lst us)) _ (Fr.new g hl) (g.new hl) (.lst upd_same (r1.mono (same_new (g.gn hl)))) rfl⟩
  · cases h
def dmD : Dt → Dt → Option Dt
  | .int i, .int j => if 0 < j ∧ j < 2 ^ 200 then some (.tup [.int (i / j), .int (i % j)]) else none
  | _, _ => none
theorem cs_dm : CS2 K rDm dmD := fun x y z h => by
  unfold dmD at h
  split at h
  · split at h
    · rename_i hc
      cases h
      exact cd_dm (divp_small hc.1 hc.2) rfl
    · cases h
  · cases h
def rStrI : List V → Hp → VK → Prop := fun xs H Q => (∃ i, xs = [.int i] ∧ i.natAbs.log2 < 1920 ∧ Q (.str (toString i)) H)
theorem callStrI {X : Cx} : CallR X (.type "str") rStrI := call_str_int
def strD : Dt → Option Dt
  | .int i => if i.natAbs.log2 < 1920 then some (.str (toString i)) else none
  | _ => none
theorem cs_str : CS1 K rStrI strD := fun x z h => by
  unfold strD at h
  split at h
  · split at h
    · cases h
      exact cd_of (fun G H vs Q g hv k => by
        obtain ⟨v, rfl, r⟩ := dv1 hv
        cases r.int
        exact ⟨_, rfl, by assumption, k _ (.str _)⟩) rfl
    · cases h
  · cases h
/-- repr(..) of data -/
def reprD (x : Dt) : Option Dt :=
  match toPy x with
  | some p => if p.showable = true ∧ p.hasDict = false ∧ p.depth ≤ 60 ∧ p.shown.length ≤ 10000000 then some (.str p.shown) else none
  | none => none
theorem cs_repr : CS1 K (Pg.rRepr K) reprD := fun x z h => by
  unfold reprD at h
  split at h
  · rename_i p hp
    split at h
    · rename_i hc
      cases h
      exact cd_repr hp hc.1 hc.2.1 hc.2.2.1 hc.2.2.2 rfl
    · cases h
  · cases h
/-! sorted -/
def pyD (d : Dt) : PyData := (toPy d).getD .none
open Classical in
noncomputable def sortD : Dt → Option Dt
  | .lst ds => match toPys ds with
    | some ps => if PySem.W.AllAlike ps ∧ PySem.W.Sortable ps ∧ ∀ p ∈ ps, p.depth ≤ 60 then some (.lst (srt pyD ds)) else none
    | none => none
  | _ => none
theorem toPys_pyD : ∀ {ds : List Dt} {ps : List PyData}, toPys ds = some ps → ps = ds.map pyD ∧ ∀ d ∈ ds, toPy d = some (pyD d)
  | [], ps, h => by cases h; exact ⟨rfl, fun d hd => nomatch hd⟩
  | d :: ds, ps, h => by
    unfold toPys at h
    cases q : toPy d with
    | none => rw [q] at h; cases h
    | some p =>
      cases q2 : toPys ds with
      | none => rw [q, q2] at h; cases h
      | some qs =>
        rw [q, q2] at h
        cases h
        obtain ⟨e1, e2⟩ := toPys_pyD q2
        have ep : pyD d = p := by unfold pyD; rw [q]; rfl
        refine ⟨by rw [List.map_cons, ep, ← e1], fun x hx => ?_⟩
        rcases List.mem_cons.mp hx with rfl | hx
        · rw [q, ep]
        · exact e2 x hx
theorem cs_sort : CS1 K (rSortD K) sortD := fun x z h => by
  unfold sortD at h
  split at h
  · rename_i ds
    split at h
    · rename_i ps hp
      split at h
      · rename_i hc
        cases h
        obtain ⟨e1, e2⟩ := toPys_pyD hp
        subst e1
        have := cd_sort (W := W0 K) (P := fun d => d = Dt.lst (srt pyD ds)) (cs := ds) (dt := id) (enc := pyD) e2 hc.1 hc.2.1 (fun c hc' => hc.2.2 _ (List.mem_map_of_mem hc')) (by rw [List.map_id])
        rw [List.map_id] at this
        exact this
      · cases h
    · cases h
  · cases h
end

section
variable {X : Cx} {Γ : Cn} {F : Fm} [L : Lk X Γ]
variable {e e1 e2 e3 tg : Expr} {pos p apos : Pos} {g g1 g2 g3 : Rg} {m m1 m2 m3 : M Dt} {b1 b2 : M Bool} {x : Str}
/-! list(range(n)), tuple(range(n)) -/
def rngD : Dt → Option (List Dt)
  | .int j => if 0 ≤ j ∧ j ≤ 100000 then some (upto 0 j.toNat) else none
  | _ => none
def mLRng (m : M Dt) : M Dt := fun δ => (m δ).bnd fun d δ1 => (opt (rngD d) δ1).bnd fun ds δ1 => .ok (.lst ds) δ1
def mTRng (m : M Dt) : M Dt := fun δ => (m δ).bnd fun d δ1 => (opt (rngD d) δ1).bnd fun ds δ1 => .ok (.tup ds) δ1
def mLRngO (m : M Dt) : M Sv := fun δ => (m δ).bnd fun d δ1 => (opt (rngD d) δ1).bnd fun ds δ1 => .ok (.lst ds) δ1
theorem rng_fin {d : Dt} {ds : List Dt} {G : Hp} {v : V} (r : Dr Γ.K G v d) (h : rngD d = some ds) : ∃ n, v = .int n ∧ RgOk 0 n ∧ DrAll Γ.K G (rgV 0 n) ds := by
  unfold rngD at h
  split at h
  · split at h
    · rename_i j hj
      cases h
      cases r
      refine ⟨j, rfl, RgOk.of_le (by omega) (by omega) (by omega) (by omega), ?_⟩
      have := drall_rg (K := Γ.K) (G := G) 0 j
      rw [Int.sub_zero] at this
      exact this
    · cases h
  · cases h
theorem qe_lrng {p2 pos2 : Pos} (hg : Gl X "list") (hm : X.mg "list" = none) (hg2 : Gl X "range") (hm2 : X.mg "range" = none) (h : PM X Γ e m) (na : starEach [e] X.env = (false, eval e X.env) :: starEach [] X.env := by rfl) (na2 : starEach [.Call (.Name "range" p2) [e] [] pos2] X.env = (false, eval (.Call (.Name "range" p2) [e] [] pos2) X.env) :: starEach [] X.env := by rfl) :
    PM X Γ (.Call (.Name "list" p) [.Call (.Name "range" p2) [e] [] pos2] [] pos) (mLRng m) := by
  obtain ⟨te, h1, h2⟩ := h
  refine ⟨_, pe_listRg L.calm hg hm (prg_1 hg2 hm2 h1 na) na2, fun F δ G H σ Q a k => h2 F δ G H σ _ a ((OkR.bnd k).imp fun d δ1 G1 s1 k1 v H1 a1 r1 => ?_)⟩
  obtain ⟨ds, e, k2⟩ := OkR.opt (OkR.bnd k1)
  obtain ⟨n, rfl, hr, rd⟩ := rng_fin r1 e
  have g := good0 (K := Γ.K) a1.sub
  exact ⟨n, rfl, hr, fun q hq => k2 G1 (Same.refl _) (upd G1 q (.lst (rgV 0 n))) (same_new (g.gn hq)) _ _ (a1.step (Fr.new g hq) (g.new hq).sub) (.lst upd_same (rd.mono (same_new (g.gn hq))))⟩
theorem qe_trng {p2 pos2 : Pos} (hg : Gl X "tuple") (hm : X.mg "tuple" = none) (hg2 : Gl X "range") (hm2 : X.mg "range" = none) (h : PM X Γ e m) (na : starEach [e] X.env = (false, eval e X.env) :: starEach [] X.env := by rfl) (na2 : starEach [.Call (.Name "range" p2) [e] [] pos2] X.env = (false, eval (.Call (.Name "range" p2) [e] [] pos2) X.env) :: starEach [] X.env := by rfl) :
    PM X Γ (.Call (.Name "tuple" p) [.Call (.Name "range" p2) [e] [] pos2] [] pos) (mTRng m) := by
  obtain ⟨te, h1, h2⟩ := h
  refine ⟨_, pe_tupRg L.calm hg hm (prg_1 hg2 hm2 h1 na) na2, fun F δ G H σ Q a k => h2 F δ G H σ _ a ((OkR.bnd k).imp fun d δ1 G1 s1 k1 v H1 a1 r1 => ?_)⟩
  obtain ⟨ds, e, k2⟩ := OkR.opt (OkR.bnd k1)
  obtain ⟨n, rfl, hr, rd⟩ := rng_fin r1 e
  have g := good0 (K := Γ.K) a1.sub
  exact ⟨n, rfl, hr, fun q hq => k2 G1 (Same.refl _) (upd G1 q (.tup (rgV 0 n))) (same_new (g.gn hq)) _ _ (a1.step (Fr.new g hq) (g.new hq).sub) (.tup (.inl (.inl upd_same)) (rd.mono (same_new (g.gn hq))))⟩
theorem qo_lrng {p2 pos2 : Pos} (hg : Gl X "list") (hm : X.mg "list" = none) (hg2 : Gl X "range") (hm2 : X.mg "range" = none) (h : PM X Γ e m) (na : starEach [e] X.env = (false, eval e X.env) :: starEach [] X.env := by rfl) (na2 : starEach [.Call (.Name "range" p2) [e] [] pos2] X.env = (false, eval (.Call (.Name "range" p2) [e] [] pos2) X.env) :: starEach [] X.env := by rfl) :
    PV X Γ (.Call (.Name "list" p) [.Call (.Name "range" p2) [e] [] pos2] [] pos) (mLRngO m) := by
  obtain ⟨te, h1, h2⟩ := h
  refine ⟨_, pe_listRg L.calm hg hm (prg_1 hg2 hm2 h1 na) na2, fun F δ G H σ Q a k => h2 F δ G H σ _ a ((OkR.bnd k).imp fun d δ1 G1 s1 k1 v H1 a1 r1 => ?_)⟩
  obtain ⟨ds, e, k2⟩ := OkR.opt (OkR.bnd k1)
  obtain ⟨n, rfl, hr, rd⟩ := rng_fin r1 e
  exact ⟨n, rfl, hr, fun q hq => k2 G1 (Same.refl _) G1 (Same.refl _) _ _ (a1.pushL hq rd)⟩
/-- list(xs) as a list of one's own -/
def mLstOf (g : Rg) : M Sv := fun δ => (g.run δ).bnd fun x δ1 => (opt (rv δ1 x) δ1).bnd fun d δ1 => match d with
  | .lst ds => .ok (.lst ds) δ1
  | .tup ds => .ok (.lst ds) δ1
  | _ => .bad
theorem qo_lstOf (hg : Gl X "list") (hm : X.mg "list" = none) (ha : PR X Γ e g) (he : starEach [e] X.env = (false, eval e X.env) :: starEach [] X.env := by rfl) : PV X Γ (.Call (.Name "list" p) [e] [] pos) (mLstOf g) := by
  obtain ⟨ta, h1, h2⟩ := ha
  refine ⟨_, pe_callTy (CallR.wk (r := rLstOf) callLstOf L.k) hg hm (by decide +kernel) (pa_cons h1 pa_nil he) (by decide) (by decide) he, fun F δ G H σ Q at_ k => h2 F δ G H σ _ at_ ((OkR.bnd k).imp fun y δ1 G1 s1 k1 v H1 a1 r1 => ?_)⟩
  obtain ⟨d, e, k2⟩ := OkR.opt (OkR.bnd k1)
  have dv := r1.dv a1 e
  have k2 := k2 G1 (Same.refl _)
  cases d with
  | lst ds =>
    obtain ⟨a, us, rfl, q1, q2⟩ := dv.lst (good0 a1.sub)
    exact ⟨a, us, rfl, .inl (SqL.of q1), fun l hl => k2 G1 (Same.refl _) _ _ (a1.pushL hl q2)⟩
  | tup ds =>
    obtain ⟨a, us, rfl, q1, q2⟩ := dv.tup
    exact ⟨a, us, rfl, .inr (sqT_mono a1.sub q1), fun l hl => k2 G1 (Same.refl _) _ _ (a1.pushL hl q2)⟩
  | _ => exact k2.elim
/-- a + b, lists, as a list of one's own -/
def mAddO (a b : Rg) : M Sv := fun δ => (a.run δ).bnd fun x δ1 => (b.run δ1).bnd fun y δ2 => match rv δ2 x, rv δ2 y with
  | some (.lst xs), some (.lst ys) => if xs.length + ys.length ≤ 100000 then .ok (.lst (xs ++ ys)) δ2 else .bad
  | _, _ => .bad
theorem qo_add (ha : PR X Γ e1 g1) (hb : PR X Γ e2 g2) : PV X Γ (.BinOp e1 .Add e2 pos) (mAddO g1 g2) := by
  obtain ⟨ta, h1, h2⟩ := ha
  obtain ⟨tb, h3, h4⟩ := hb
  refine ⟨_, pe_op (OpR.wk (r := rAddA) opAdd L.k) h1 h3, fun F δ G H σ Q at_ k => h2 F δ G H σ _ at_ ((OkR.bnd k).imp fun y δ1 G1 s1 k1 v H1 a1 r1 => h4 F δ1 G1 H1 σ _ a1 ((OkR.bnd k1).imp fun z δ2 G2 s2 k2 w H2 a2 r2 => ?_))⟩
  split at k2
  · rename_i xs ys ex ey
    obtain ⟨hl, k2⟩ := if_ok k2
    obtain ⟨a, us, rfl, q1, q2⟩ := ((r1.mono s2).dv a2 ex).lst (good0 a2.sub)
    obtain ⟨b, ws, rfl, q3, q4⟩ := (r2.dv a2 ey).lst (good0 a2.sub)
    exact .inr (.inl ⟨a, b, us, ws, rfl, rfl, q1, q3, by rw [q2.length, q4.length]; exact Nat.le_trans hl (by decide), fun q hq => k2 G2 (Same.refl _) _ _ (a2.pushL hq (q2.append q4))⟩)
  · exact k2.elim
/-! enumerate -/
def mEnum (m : M Dt) : M (List Dt) := fun δ => (m δ).bnd fun d δ1 => match d with
  | .tup ds => .ok (enumD ds) δ1
  | .lst ds => .ok (enumD ds) δ1
  | _ => .bad
theorem wk_enumT {K : PySem.W.Frag} {G : Hp} {a : Addr} {xs : List V} {es : List Dt} (hs : SqT K G a xs) (hd : DrAll K G xs es) : Wk (W0 K) (IteT K a) (enumD es) G := by
  unfold Wk
  rw [enumD_len, ← hd.length]
  refine ⟨fun i H2 hi q => ⟨xs, xs[i], sqT_mono q hs, List.getElem?_eq_getElem hi⟩, fun H2 q => ⟨xs, sqT_mono q hs, rfl⟩, fun i H2 v H3 hi q y => ?_⟩
  obtain ⟨T, x, rfl, hT, rfl, hx⟩ := y
  have hx' := hx xs (sqT_mono q hs)
  obtain ⟨d, hde, rd⟩ := hd.get hx'
  intro G2 e2 g2
  refine ⟨upd G2 T (.tup [.int (i : Nat), x]), .tup [.int (i : Nat), d], enumD_at hde, Fr.new g2 hT, g2.new hT, .tup (.inl (.inl upd_same)) (.cons (.int _) (.cons ?_ .nil))⟩
  exact (rd.mono e2).mono (same_new (g2.gn hT))
theorem wk_enumL {K : PySem.W.Frag} {G : Hp} {a : Addr} {xs : List V} {es : List Dt} (hs : ∀ H, Same G H → SqL K H a xs) (hd : DrAll K G xs es) : Wk (W0 K) (Ite K a) (enumD es) G := by
  unfold Wk
  have w := walk_enum (K := K) (a := a) (xs := xs)
  rw [enumD_len, ← hd.length]
  refine w.mono hs fun i H2 v H3 hi q y => ?_
  obtain ⟨T, x, y', rfl, hT, rfl, e1, e2⟩ := y
  cases e1
  obtain ⟨d, hde, rd⟩ := hd.get e2
  intro G2 e2' g2
  refine ⟨upd G2 T (.tup [.int (i : Nat), y']), .tup [.int (i : Nat), d], enumD_at hde, Fr.new g2 hT, g2.new hT, .tup (.inl (.inl upd_same)) (.cons (.int _) (.cons ?_ .nil))⟩
  exact (rd.mono e2').mono (same_new (g2.gn hT))
theorem qi_enum {elts : List Expr} {kk : Nat} {tpos : Pos} (hg : Gl X "enumerate") (hm : X.mg "enumerate" = none) (h : PM X Γ e m) (hs : starEach [e] X.env = (false, eval e X.env) :: starEach [] X.env := by rfl) : PIt X Γ (.Tuple elts kk tpos) (.Call (.Name "enumerate" p) [e] [] pos) (mEnum m) := by
  obtain ⟨te, h1, h2⟩ := h
  have pe := pi_enum (X := X) (elts := elts) (kk := kk) (tpos := tpos) (p := p) (pos := pos) hg hm (pa_cons h1 pa_nil hs) (hs.trans rfl)
  rw [L.k] at pe
  refine ⟨_, (pi_enumT L.k hg hm (pa_cons h1 pa_nil hs) (hs.trans rfl)).or pe, fun F δ G H σ R a k => ?_⟩
  cases hm' : m δ with
  | bad => unfold mEnum at k; rw [hm'] at k; exact k.elim
  | exc x δ' =>
    unfold mEnum at k
    rw [hm'] at k
    refine .inl (h2 F δ G H σ _ a ?_)
    rw [hm']
    exact k
  | ok d δ' =>
    have k' := k
    unfold mEnum at k'
    rw [hm', bnd_ok] at k'
    cases d with
    | tup es =>
      refine .inl (h2 F δ G H σ _ a ?_)
      rw [hm']
      intro G1 s1 v H1 a1 r1
      cases r1 with
      | @tup b xs _ q1 q2 => exact ⟨b, xs, rfl, sqT_mono a1.sub q1, k' G1 s1 _ H1 a1 (wk_enumT q1 q2)⟩
    | lst es =>
      refine .inr (h2 F δ G H σ _ a ?_)
      rw [hm']
      intro G1 s1 v H1 a1 r1
      cases r1 with
      | @lst b xs _ q1 q2 => exact ⟨b, xs, rfl, SqL.of (a1.sub _ _ q1), k' G1 s1 _ H1 a1 (wk_enumL (fun H q => SqL.of (q _ _ q1)) q2)⟩
    | _ => exact k'.elim
/-! texts -/
def strsOf : List Dt → Option (List Str)
  | [] => some []
  | .str b :: ds => (strsOf ds).map (b :: ·)
  | _ :: _ => none
theorem strsOf_some : ∀ {ds : List Dt} {bs : List Str}, strsOf ds = some bs → ds = bs.map Dt.str
  | [], bs, h => by cases h; rfl
  | d :: ds, bs, h => by
    cases d with
    | str b =>
      unfold strsOf at h
      cases q : strsOf ds with
      | none => rw [q] at h; cases h
      | some cs => rw [q] at h; cases h; rw [strsOf_some q]; rfl
    | _ => cases h
@[simp] theorem strsOf_map (bs : List Str) : strsOf (bs.map Dt.str) = some bs := by
  induction bs with
  | nil => rfl
  | cons b bs ih => rw [List.map_cons, strsOf, ih]; rfl
def joinD : Dt → Dt → Option Dt
  | .str a, .lst ds => match strsOf ds with
    | some ys => if (ys.map (·.length)).sum + ys.length * a.length ≤ 1000000 then some (.str (Txt.join a ys)) else none
    | none => none
  | _, _ => none
def mJoin (a b : M Dt) : M Dt := fun δ => (a δ).bnd fun x δ1 => match x with
  | .str s => (b δ1).bnd fun y δ2 => opt (joinD (.str s) y) δ2
  | _ => .bad
theorem qe_join (ha : PM X Γ e1 m1) (hb : PM X Γ e2 m2) (hs : starEach [e2] X.env = [(false, eval e2 X.env)] := by rfl) (hbase : attributeBase e1 "join" X.env (eval e1 X.env) = eval e1 X.env := by rfl) (hline : (apos.endLine == pos.line) = true := by rfl) : PM X Γ (.Call (.Attribute e1 "join" apos) [e2] [] pos) (mJoin m1 m2) := by
  obtain ⟨ta, h1, h2⟩ := ha
  obtain ⟨tb, h3, h4⟩ := hb
  refine ⟨_, pe_join h1 h3 hs hbase hline, fun F δ G H σ Q at_ k => h2 F δ G H σ _ at_ ((OkR.bnd k).imp fun x δ1 G1 s1 k1 v H1 a1 r1 => ?_)⟩
  cases x with
  | str a =>
    cases r1
    refine ⟨⟨a, rfl⟩, h4 F δ1 G1 H1 σ _ a1 ((OkR.bnd k1).imp fun y δ2 G2 s2 k2 w H2 a2 r2 => ?_)⟩
    obtain ⟨z, ez, k3⟩ := OkR.opt k2
    unfold joinD at ez
    split at ez
    · rename_i ds q
      cases q
      split at ez
      · rename_i ys hy
        split at ez
        · rename_i hz
          cases ez
          have := strsOf_some hy
          subst this
          cases r2 with
          | @lst b xs _ q1 q2 =>
            have := drall_str q2
            subst this
            exact ⟨a, b, ys, rfl, rfl, .inl (SqL.of (a2.sub _ _ q1)), Nat.le_trans hz (by decide), k3 G2 (Same.refl _) _ H2 a2 (.str _)⟩
        · cases ez
      · cases ez
    · cases ez
  | _ => exact k1.elim
/-! f-strings -/
def fmtD : Dt → Option Dt
  | .str z => if z.length ≤ 100000 then some (.str z) else none
  | .int i => if i.natAbs.log2 < 1920 then some (.str (toString i)) else none
  | _ => none
theorem qe_fmt (h : PM X Γ e m) : PM X Γ (.FormattedValue e (-1) none pos) (mUn fmtD m) := by
  obtain ⟨ta, h1, h2⟩ := h
  refine ⟨_, pe_fmt h1, fun F δ G H σ Q at_ k => h2 F δ G H σ _ at_ ((OkR.bnd k).imp fun d δ1 G1 s1 k1 v H1 a1 r1 => ?_)⟩
  obtain ⟨z, ez, k2⟩ := OkR.opt k1
  unfold fmtD at ez
  split at ez
  · split at ez
    · cases ez; cases r1; exact .inl ⟨_, rfl, Nat.le_trans (by assumption) (by decide), k2 G1 (Same.refl _) _ H1 a1 (.str _)⟩
    · cases ez
  · split at ez
    · cases ez; cases r1; exact .inr ⟨_, rfl, by assumption, k2 G1 (Same.refl _) _ H1 a1 (.str _)⟩
    · cases ez
  · cases ez
def mJs : List (M Dt) → Str → M Str
  | [], acc => fun δ => .ok acc δ
  | m :: ms, acc => fun δ => (m δ).bnd fun d δ1 => match d with
    | .str y => if (acc ++ y).length ≤ 1000000 then mJs ms (acc ++ y) δ1 else .bad
    | _ => .bad
def mFstr (ms : List (M Dt)) : M Dt := fun δ => (mJs ms Str.empty δ).bnd fun z δ1 => .ok (.str z) δ1
inductive PJm (X : Cx) (Γ : Cn) : List Expr → List (M Dt) → Prop where
  | nil : PJm X Γ [] []
  | cons {e : Expr} {m : M Dt} {es : List Expr} {ms : List (M Dt)} (h : PM X Γ e m) (r : PJm X Γ es ms) : PJm X Γ (e :: es) (m :: ms)
theorem pjm_run {es : List Expr} {ms : List (M Dt)} (h : PJm X Γ es ms) : ∃ ts, PJ X es ts ∧ ∀ acc F δ G H σ (Q : Str → Hp → Prop), At Γ F δ G H σ → OkR Γ F G (mJs ms acc δ) (fun z δ' G' => ∀ H', At Γ F δ' G' H' σ → Q z H') → tJs ts acc σ H Q := by
  induction h with
  | nil => exact ⟨[], .nil, fun acc F δ G H σ Q a k => k G (Same.refl _) H a⟩
  | @cons e m es ms h r ih =>
    obtain ⟨ts, q1, q2⟩ := ih
    obtain ⟨te, h1, h2⟩ := h
    refine ⟨te :: ts, .cons h1 q1, fun acc F δ G H σ Q a k => h2 F δ G H σ _ a ((OkR.bnd k).imp fun d δ1 G1 s1 k1 v H1 a1 r1 => ?_)⟩
    cases d with
    | str y =>
      cases r1
      obtain ⟨hl, k1⟩ := if_ok k1
      exact ⟨y, rfl, Nat.le_trans hl (by decide), q2 _ F δ1 G1 H1 σ Q a1 k1⟩
    | _ => exact k1.elim
theorem qe_fstr {v1 v2 : Expr} {rest : List Expr} {ms : List (M Dt)} (h : PJm X Γ (v1 :: v2 :: rest) ms) : PM X Γ (.JoinedStr (v1 :: v2 :: rest) pos) (mFstr ms) := by
  obtain ⟨ts, q1, q2⟩ := pjm_run h
  exact ⟨_, pe_joined q1, fun F δ G H σ Q a k => q2 _ F δ G H σ _ a ((OkR.bnd k).imp fun z δ1 G1 s1 k1 H1 a1 => k1 G1 (Same.refl _) _ H1 a1 (.str z))⟩
theorem qe_fstr1 (h : PM X Γ e m) : PM X Γ (.JoinedStr [e] pos) m := let ⟨_, h1, h2⟩ := h; ⟨_, pe_joined1 h1, h2⟩
end
end Qm

set_option Elab.async false
set_option linter.all false
set_option maxRecDepth 100000
set_option maxHeartbeats 2000000
namespace Qm
open PySem PySem.Spec PyProof.Rows L2 Pd

/-! ### objects in the making -/
section
variable {Γ : Cn} {F : Fm} {δ : List Sv} {G H : Hp} {σ : L2.St}
theorem At.pushNew (a : At Γ F δ G H σ) {v : V} {s : Sv} {f0 : List Addr} {H' : Hp} (hf : Fr (W0 Γ.K) G H G H') (sub : Same G H') (ho : Own Γ.K G H' (some v) f0 s) (hd : ∀ b ∈ f0, H b = none) : At Γ F (δ ++ [s]) G H' (σ ++ [some v]) := by
  obtain ⟨fp, h1, h2, h3, h4⟩ := a.own
  have a1 := a.step hf sub
  have lt : ∀ i b, b ∈ fp i → i < δ.length := fun i b hb => by
    apply Classical.byContradiction
    intro z
    rw [h2 i (by omega)] at hb
    cases hb
  have live : ∀ i b, b ∈ fp i → H b ≠ none := fun i b hb => (h1 i _ (List.getElem?_eq_getElem (lt i b hb))).live hb
  have stay : ∀ i b, b ∈ fp i → H' b = H b := fun i b hb => by
    cases q : H b with
    | none => exact absurd q (live i b hb)
    | some u => exact (hf.o b u q (h4 i b hb).1).2 fun z => by cases z
  refine ⟨a1.sub, a1.g0, a1.fr, a1.live, by simp [a.len], Nat.le_trans a.nl (by simp), fun i hi => ?_, fun i => if i = δ.length then f0 else fp i, fun i t ht => ?_, fun i hi => ?_, fun i j b hi hj => ?_, fun i b hb => ?_⟩
  · have := a.pin i hi
    rw [List.getElem?_append_left (List.getElem?_eq_some_iff.mp this).1]
    exact this
  · rw [get_app] at ht
    by_cases q : i < δ.length
    · rw [if_pos q] at ht
      simp only [if_neg (show ¬ i = δ.length by omega)]
      rw [List.getElem?_append_left (by rw [a.len]; exact q)]
      exact (h1 i t ht).mono (Same.refl G) fun b hb => stay i b hb
    · rw [if_neg q] at ht
      by_cases q2 : i = δ.length
      · rw [if_pos q2] at ht
        cases ht
        rw [get_app, a.len, if_neg q, if_pos q2]
        simp only [if_pos q2]
        exact ho
      · rw [if_neg q2] at ht
        cases ht
  · rw [List.length_append, List.length_singleton] at hi
    simp only [if_neg (show ¬ i = δ.length by omega)]
    exact h2 i (by omega)
  · simp only at hi hj
    by_cases q : i = δ.length
    · rw [if_pos q] at hi
      by_cases q2 : j = δ.length
      · omega
      · rw [if_neg q2] at hj
        exact absurd (hd b hi) (live j b hj)
    · rw [if_neg q] at hi
      by_cases q2 : j = δ.length
      · rw [if_pos q2] at hj
        exact absurd (hd b hj) (live i b hi)
      · rw [if_neg q2] at hj
        exact h3 i j b hi hj
  · simp only at hb
    by_cases q : i = δ.length
    · rw [if_pos q] at hb
      exact ⟨a.free (hd b hb), .inl (a.h0 (hd b hb))⟩
    · rw [if_neg q] at hb
      exact h4 i b hb
theorem At.pushI (a : At Γ F δ G H σ) {x dx C : Addr} (hx : H x = none) (hd : H dx = none) (hne : dx ≠ x) : At Γ F (δ ++ [.ins C []]) G (upd (upd H dx (.own x)) x (.ins C dx [])) (σ ++ [some (.ref x)]) := by
  have g := good0 (K := Γ.K) a.sub
  have g1 : Good (W0 Γ.K) G (upd H dx (.own x)) := g.setM (g.gn hd) (fun z => by cases z)
  have hx1 : (upd H dx (.own x)) x = none := by rw [upd_ne hne.symm]; exact hx
  have g2 : Good (W0 Γ.K) G (upd (upd H dx (.own x)) x (.ins C dx [])) := g1.setM (g.gn hx) (fun z => by cases z)
  refine a.pushNew (f0 := [x, dx]) ((Fr.newM g hd).trans (Fr.newM g1 hx1) g2) g2.sub ⟨x, dx, [], rfl, rfl, hne.symm, upd_same, by rw [upd_ne hne]; exact upd_same, .nil⟩ fun b hb => ?_
  rw [List.mem_cons, List.mem_singleton] at hb
  rcases hb with rfl | rfl
  · exact hx
  · exact hd
/-- what is made changes no more -/
theorem At.doneI {x C : Addr} {fs : List (Str × Dt)} (a : At Γ F (δ ++ [.ins C fs]) G H (σ ++ [some (.ref x)])) (hn : Γ.n ≤ δ.length) : ∃ G', Same G G' ∧ At Γ F δ G' H σ ∧ Dr Γ.K G' (.ref x) (.obj C fs) := by
  obtain ⟨fp, h1, h2, h3, h4⟩ := a.own
  have len : σ.length = δ.length := by simpa using a.len
  have a0 := a.pop hn
  have ow : Own Γ.K G H (some (.ref x)) (fp δ.length) (.ins C fs) := by
    have := h1 δ.length (.ins C fs) (by rw [get_app, if_neg (by omega), if_pos rfl])
    rw [get_app, len, if_neg (by omega), if_pos rfl] at this
    exact this
  obtain ⟨x', dx, vs, e, ef, hne, q1, q2, q3⟩ := ow
  cases e
  have gx := (h4 δ.length x (by rw [ef]; simp)).1
  have gd := (h4 δ.length dx (by rw [ef]; simp)).1
  have gd2 : (upd G x (.ins C dx vs)) dx = none := by rw [upd_ne hne.symm]; exact gd
  have sG : Same G (upd (upd G x (.ins C dx vs)) dx (.own x)) := (same_new gx).trans (same_new gd2)
  have other : ∀ b, b ≠ x → b ≠ dx → (upd (upd G x (.ins C dx vs)) dx (.own x)) b = G b := fun b hb1 hb2 => by rw [upd_ne hb2, upd_ne hb1]
  have nin : ∀ i b, i < δ.length → b ∈ fp i → b ≠ x ∧ b ≠ dx := fun i b hi hb => ⟨fun z => by
    subst z
    have := h3 i δ.length b hb (by rw [ef]; simp)
    omega, fun z => by
    subst z
    have := h3 i δ.length b hb (by rw [ef]; simp)
    omega⟩
  refine ⟨_, sG, ⟨fun b u e => ?_, a.g0.trans sG, fun b u e g m => ?_, a.live, len, hn, a0.pin, fun i => if i < δ.length then fp i else [], fun i t ht => ?_, fun i hi => if_neg (by omega), fun i j b hi hj => ?_, fun i b hb => ?_⟩, .obj (by rw [upd_ne hne]; exact upd_same) upd_same (q3.mono sG)⟩
  · by_cases w1 : b = dx
    · subst w1; rw [upd_same] at e; cases e; exact q2
    · by_cases w2 : b = x
      · subst w2; rw [upd_ne w1, upd_same] at e; cases e; exact q1
      · rw [other b w2 w1] at e; exact a.sub b u e
  · obtain ⟨z1, z2⟩ := a.fr b u e g m
    have m0 : ∀ c ∈ fp δ.length, c ≠ b := fun c hc z => by
      subst z
      rcases (h4 δ.length c hc).2 with q | q
      · rw [q] at e; cases e
      · exact m q
    rw [other b (m0 x (by rw [ef]; simp)).symm (m0 dx (by rw [ef]; simp)).symm]
    exact ⟨z1, z2⟩
  · have hil := (List.getElem?_eq_some_iff.mp ht).1
    have := h1 i t (by rw [List.getElem?_append_left hil]; exact ht)
    rw [List.getElem?_append_left (by rw [len]; exact hil)] at this
    simp only [if_pos hil]
    exact this.mono sG fun b hb => rfl
  · simp only at hi hj
    split at hi
    · split at hj
      · exact h3 i j b hi hj
      · cases hj
    · cases hi
  · simp only at hb
    split at hb
    · rename_i hi
      obtain ⟨w1, w2⟩ := nin i b hi hb
      rw [other b w1 w2]
      exact h4 i b hb
    · cases hb
/-- a field of self is stored -/
theorem At.putF (a : At Γ F δ G H σ) {i : Nat} {C : Addr} {fs : List (Str × Dt)} {f : Str} {v : V} {d : Dt} (hs : δ[i]? = some (.ins C fs)) (r : Dr Γ.K G v d) : ∃ x dx vs, σ[i]? = some (some (.ref x)) ∧ H x = some (.ins C dx vs) ∧ vs.length = fs.length ∧
    At Γ F (δ.set i (.ins C (putD f d fs))) G (upd H x (.ins C dx (L2.putF f v vs))) σ := by
  obtain ⟨fp, h1, h2, h3, h4⟩ := a.own
  have hil := (List.getElem?_eq_some_iff.mp hs).1
  obtain ⟨x, dx, vs, ex, ef, hne, q1, q2, q3⟩ := h1 i _ hs
  have hσ : σ[i]? = some (some (.ref x)) := by
    cases z : σ[i]? with
    | none => rw [z] at ex; cases ex
    | some o => rw [z] at ex; rw [show o = some (.ref x) from ex]
  have gx := h4 i x (by rw [ef]; simp)
  refine ⟨x, dx, vs, hσ, q1, q3.length, fun b u e => ?_, a.g0, fun b u e g m => ?_, fun b h => ?_, by rw [List.length_set]; exact a.len, by rw [List.length_set]; exact a.nl, a.pin, fp, fun j t ht => ?_, fun j hj => h2 j (by rw [List.length_set] at hj; exact hj), h3, h4⟩
  · rw [upd_ne (fun z : b = x => by subst z; rw [gx.1] at e; cases e)]
    exact a.sub b u e
  · have : b ≠ x := fun z => by
      subst z
      rcases gx.2 with q | q
      · rw [q] at e; cases e
      · exact m q
    rw [upd_ne this]
    exact a.fr b u e g m
  · by_cases z : b = x
    · subst z; rw [upd_same]; exact Option.some_ne_none _
    · rw [upd_ne z]; exact a.live b h
  · rw [set_get] at ht
    by_cases q : i = j
    · subst q
      rw [if_pos rfl, if_pos hil] at ht
      cases ht
      rw [hσ]
      exact ⟨x, dx, _, rfl, ef, hne, upd_same, by rw [upd_ne hne.symm]; exact q2, q3.put r⟩
    · rw [if_neg q] at ht
      exact (h1 j t ht).mono (Same.refl G) fun b hb => upd_ne fun z => by
        subst z
        exact q (h3 i j b (by rw [ef]; simp) hb)
theorem fld_at (a : At Γ F δ G H σ) {i : Nat} {C : Addr} {fs : List (Str × Dt)} (hs : δ[i]? = some (.ins C fs)) : ∃ x dx vs, σ[i]? = some (some (.ref x)) ∧ H x = some (.ins C dx vs) ∧ DrFs Γ.K G vs fs := by
  obtain ⟨fp, h1, _⟩ := a.own
  obtain ⟨x, dx, vs, e, ef, hne, q1, q2, q3⟩ := h1 i _ hs
  refine ⟨x, dx, vs, ?_, q1, q3⟩
  cases z : σ[i]? with
  | none => rw [z] at e; cases e
  | some o => rw [z] at e; rw [show o = some (.ref x) from e]
end
section
variable {X : Cx} {Γ : Cn} {F : Fm} [L : Lk X Γ]
variable {e e1 e2 o : Expr} {es : List Expr} {pos p apos : Pos} {m m1 m2 : M Dt} {x f : Str} {ags : List Ag} {j k n i : Nat} {kd : List (Option Nat)} {c : List Sv → Res Sv} {C : Addr}
def mFldSet (cs : List Addr) (i : Nat) (f : Str) (m : M Dt) : M Fl := fun δ => (m δ).bnd fun d δ1 => match δ1[i]? with
  | some (.ins C fs) => if cs.contains C = true ∧ fs.length < 1000 then .ok .nx (δ1.set i (.ins C (putD f d fs))) else .bad
  | _ => .bad
theorem qs_fld {cs : List Addr} {p1 p2 : Pos} {xs : Str} (hc : ∀ C ∈ cs, Cls Γ.K C ∧ NoAttr Γ.K C f) (hN : X.N[i]? = some xs) (hv : Vis X.env.scope xs) (h : PM X Γ e m) (hs : swapsWith e (some (.Attribute (.Name xs p1) f p2)) pos.line X.env = pure false := by rfl) (hd : (xs == ("__debug__" : Str)) = false := by decide) (hcd : (xs == ("__classdict__" : Str)) = false := by decide) : PQ X Γ (.Assign [.Attribute (.Name xs p1) f p2] e pos) (mFldSet cs i f m) := by
  obtain ⟨te, h1, h2⟩ := h
  refine ⟨_, ps_fldK L.k (pe_var hN hv hd hcd) h1 hs, fun F δ G H σ D a k => h2 F δ G H σ _ a ((OkR.bnd k).imp fun d δ1 G1 s1 k1 v H1 a1 r1 => ?_)⟩
  split at k1
  · rename_i C fs hs
    obtain ⟨⟨hC, hl⟩, k1⟩ := if_ok k1
    have hC : C ∈ cs := by simpa using hC
    obtain ⟨x, dx, vs, q1, q2, q3, q4⟩ := a1.putF (f := f) hs r1
    exact ⟨_, q1, x, C, dx, vs, rfl, q2, (hc C hC).1, (hc C hC).2, by rw [q3]; exact hl, k1 G1 (Same.refl _) σ _ q4⟩
  · exact k1.elim
def mFldS (cs : List Addr) (i : Nat) (f : Str) : M Dt := fun δ => match δ[i]? with
  | some (.ins C fs) => if cs.contains C = true then opt (fs.lookup f) δ else .bad
  | some (.dat d) => opt (fldD cs f d) δ
  | _ => .bad
/-- self.f -/
theorem qe_fldS {cs : List Addr} {p1 : Pos} {xs : Str} (hc : ∀ C ∈ cs, Cls Γ.K C ∧ NoAttr Γ.K C f) (hN : X.N[i]? = some xs) (hv : Vis X.env.scope xs) (hb : attributeBase (.Name xs p1) f X.env (eval (.Name xs p1) X.env) = eval (.Name xs p1) X.env := by rfl) (hd : (xs == ("__debug__" : Str)) = false := by decide) (hcd : (xs == ("__classdict__" : Str)) = false := by decide) : PM X Γ (.Attribute (.Name xs p1) f pos) (mFldS cs i f) := by
  refine ⟨_, pe_fldK L.k (pe_var hN hv hd hcd) hb, fun F δ G H σ Q a k => ?_⟩
  unfold mFldS at k
  split at k
  · rename_i C fs hs
    obtain ⟨hC, k⟩ := if_ok k
    have hC : C ∈ cs := by simpa using hC
    obtain ⟨d, e, k2⟩ := OkR.opt k
    obtain ⟨x, dx, vs, q1, q2, q3⟩ := fld_at a hs
    obtain ⟨v, hv, rv⟩ := q3.look e
    exact ⟨_, q1, x, C, dx, vs, v, rfl, q2, (hc C hC).1, (hc C hC).2, hv, k2 G (Same.refl _) v H a rv⟩
  · rename_i d hs
    obtain ⟨u, q1, r1⟩ := a.dat hs
    obtain ⟨z, e, k2⟩ := OkR.opt k
    cases d with
    | obj C fs =>
      unfold fldD at e
      simp only at e
      split at e
      · rename_i hC
        have hC : C ∈ cs := by simpa using hC
        cases r1 with
        | @obj b _ dx vs _ w1 w2 w3 =>
          obtain ⟨v, hv, rv⟩ := w3.look e
          exact ⟨_, q1, b, C, dx, vs, v, rfl, a.sub _ _ w1, (hc C hC).1, (hc C hC).2, hv, k2 G (Same.refl _) v H a rv⟩
      · cases e
    | _ => cases e
  · exact k.elim
/-! ### C(..) -/
def allEx (as : List Ag) : Bool := as.all fun a => match a with
  | .ex _ => true
  | _ => false
def mMake (C : Addr) (c : List Sv → Res Sv) (ms : List (M Dt)) : M Dt := fun δ => (mAll ms δ).bnd fun ds δ1 => match c (.ins C [] :: ds.map .dat) with
  | .ok (.dat .non) (.ins C' fs :: _) => if C' = C then .ok (.obj C fs) δ1 else .bad
  | _ => .bad
theorem drall_ags {K : PySem.W.Frag} {G : Hp} {σ : L2.St} : ∀ {vs : List V} {ds : List Dt}, DrAll K G vs ds → AgOk K G σ vs (ds.map fun d => Ag.ex (mC d)) ds
  | _, _, .nil => .nil
  | _, _, .cons r t => .ex r (drall_ags t)
theorem pick_ex {δ : List Sv} : ∀ {ds : List Dt}, pickA δ (ds.map fun d => Ag.ex (mC d)) ds = ds.map .dat
  | [] => rfl
  | d :: ds => by rw [List.map_cons, pickA, pick_ex]; rfl
theorem kinds_ex (ds : List Dt) : (ds.map fun d => Ag.ex (mC d)).map Ag.kind = List.replicate ds.length none := by
  induction ds with
  | nil => rfl
  | cons d ds ih => rw [List.map_cons, List.map_cons, ih]; rfl
theorem kdOf_rep : ∀ (n k : Nat), kdOf k (List.replicate n none) = List.replicate n none
  | 0, _ => rfl
  | n + 1, k => by rw [List.replicate_succ, kdOf, kdOf_rep]
theorem filt_rep : ∀ n : Nat, (List.replicate n (none : Option Nat)).filterMap id = []
  | 0 => rfl
  | n + 1 => by rw [List.replicate_succ, List.filterMap_cons, filt_rep]; rfl
/-- the maker's promise met -/
theorem make_fin {δ : List Sv} {G H : Hp} {σ : L2.St} {vs : List V} {ds : List Dt} {fs : List (Str × Dt)} {outs : List Sv} {Q : VK} {E : XK} (a : At Γ F δ G H σ) (r : DrAll Γ.K G vs ds) (hl : ds.length + 1 = n) (hkd : kd = some 0 :: List.replicate ds.length none)
    (hc : c (.ins C [] :: ds.map .dat) = .ok (.dat .non) (.ins C fs :: outs)) (k : ∀ x G' H', Same G G' → At Γ F δ G' H' σ → Dr Γ.K G' (.ref x) (.obj C fs) → Q (.ref x) H') {x dx : Addr} (hx : H x = none) (hd : H dx = none) (hne : dx ≠ x) :
    spM Γ.K n kd c (.ref x :: vs) (upd (upd H dx (.own x)) x (.ins C dx [])) (fun v H2 => v = .non ∧ Q (.ref x) H2) E := by
  have a1 := a.pushI (C := C) hx hd hne
  have r1 : AgOk Γ.K G (σ ++ [some (.ref x)]) (.ref x :: vs) (.io δ.length :: ds.map fun d => Ag.ex (mC d)) (.non :: ds) := .io (by rw [get_app, a.len, if_neg (by omega), if_pos rfl]) (drall_ags r)
  have ek : ((Ag.io δ.length :: ds.map fun d => Ag.ex (mC d)).map Ag.kind) = some δ.length :: List.replicate ds.length none := by rw [List.map_cons, kinds_ex]; rfl
  have ep : pickA (δ ++ [.ins C []]) (.io δ.length :: ds.map fun d => Ag.ex (mC d)) (.non :: ds) = .ins C [] :: ds.map .dat := by
    rw [pickA, pick_ex, List.getD_eq_getElem?_getD, get_app, if_neg (by omega), if_pos rfl]
    rfl
  obtain ⟨M, a2, back⟩ := a1.call (kd := kd) r1 (once_of (by rw [ek, List.filterMap_cons]; simp [filt_rep])) (sameKd_of (by rw [ek, hkd, kdOf, kdOf_rep]))
  rw [ep, ek] at back
  rw [ep] at a2
  refine ⟨by rw [List.length_cons, r.length, hl], G, M, _, a2, fun k s hs => ?_, ?_⟩
  · cases k with
    | zero => exact .inr ⟨0, by rw [hkd]; rfl⟩
    | succ k =>
      rw [List.getElem?_cons_succ, List.getElem?_map] at hs
      cases q : ds[k]? with
      | none => rw [q] at hs; cases hs
      | some d => rw [q] at hs; cases hs; exact .inl ⟨d, rfl⟩
  · rw [hc]
    intro v G' H' sG a3
    have a4 := back _ _ v G' H' a3
    have hb : backS (δ ++ [.ins C []]) (some δ.length :: List.replicate ds.length none) (.ins C fs :: outs) = δ ++ [.ins C fs] := by
      rw [backS]
      have : backS (δ ++ [.ins C []]) (List.replicate ds.length none) outs = δ ++ [.ins C []] := by
        apply List.ext_getElem?
        intro i
        exact backS_none fun k => by
          rw [List.getElem?_replicate]
          split <;> simp
      rw [this, set_last]
    rw [hb] at a4
    have nl := a.nl
    obtain ⟨a5, r5⟩ := a4.popD (by rw [List.length_append]; omega)
    cases r5
    obtain ⟨G2, s2, a6, r6⟩ := a5.doneI nl
    exact ⟨rfl, k x G2 H' (sG.trans s2) a6 r6⟩
variable {ms ks : List (M Dt)}
theorem make_ok {ds : List Dt} {δ1 : List Sv} {G : Hp} {kk : Dt → List Sv → Hp → Prop} (h : OkR Γ F G (match c (.ins C [] :: ds.map .dat) with
  | .ok (.dat .non) (.ins C' fs :: _) => if C' = C then .ok (.obj C fs) δ1 else .bad
  | _ => Res.bad) kk) : ∃ fs outs, c (.ins C [] :: ds.map .dat) = .ok (.dat .non) (.ins C fs :: outs) ∧ ∀ G', Same G G' → kk (.obj C fs) δ1 G' := by
  split at h
  · rename_i C' fs outs e
    obtain ⟨rfl, h⟩ := if_ok h
    exact ⟨fs, outs, e, h⟩
  · exact h.elim
theorem qe_make (cl : ClI X.prog X.w X.K X.mg X.base k C x (spM X.K n kd c)) (hr : Room j X.A) (hkj : k + 1 ≤ j) (hg : Gl X x) (ha : PD X Γ (e :: es) (mAll ms)) (hl : ms.length + 1 = n := by rfl) (hkd : kd = some 0 :: List.replicate ms.length none := by rfl)
    (hdb : (x == ("__debug__" : Str)) = false := by decide) (he : starEach (e :: es) X.env = (false, eval e X.env) :: starEach es X.env := by rfl) (hpl : (backTo pos (starEach es X.env)).any (·.1) = false := by rfl) : PM X Γ (.Call (.Name x p) (e :: es) [] pos) (mMake C c ms) := by
  obtain ⟨ta, h1, h2⟩ := ha
  refine ⟨_, pe_mk cl hr hkj hg h1 hdb he hpl, fun F δ G H σ Q a k => ?_⟩
  have hb := OkR.bnd k
  refine h2 F δ G H σ _ a ?_
  cases hm : mAll ms δ with
  | bad => rw [hm] at hb; exact hb.elim
  | exc x δ' => rw [hm] at hb; exact hb
  | ok ds δ1 =>
    rw [hm] at hb
    have hlen := mAll_len hm
    intro G1 s1 vs H1 a1 r1 x dx hx hd hne
    obtain ⟨fs, outs, hc, k2⟩ := make_ok (hb G1 s1)
    rw [List.append_nil, L.k]
    exact make_fin a1 r1 (by rw [hlen]; exact hl) (by rw [hlen]; exact hkd) hc (fun x' G' H' sG a' r' => k2 G' sG _ H' a' r') hx hd hne
theorem qe_make0 (cl : ClI X.prog X.w X.K X.mg X.base k C x (spM X.K n kd c)) (hr : Room j X.A) (hkj : k + 1 ≤ j) (hg : Gl X x) (hl : 1 = n := by rfl) (hkd : kd = [some 0] := by rfl) (hdb : (x == ("__debug__" : Str)) = false := by decide) : PM X Γ (.Call (.Name x p) [] [] pos) (mMake C c []) := by
  refine ⟨_, pe_mk0 cl hr hkj hg hdb, fun F δ G H σ Q a k => ?_⟩
  intro x dx hx hd hne
  obtain ⟨fs, outs, hc, k2⟩ := make_ok (ds := []) (δ1 := δ) (OkR.bnd k G (Same.refl _))
  rw [L.k]
  exact make_fin (ds := []) a .nil hl hkd hc (fun x' G' H' sG a' r' => k2 G' sG _ H' a' r') hx hd hne
/-! with keywords -/
def mMakeK (C : Addr) (c : List Sv → Res Sv) (ms ks : List (M Dt)) (gD : List Dt → List Dt → List Dt) : M Dt := fun δ => (mAll ms δ).bnd fun ds δ1 => (mAll ks δ1).bnd fun es δ2 => match c (.ins C [] :: (gD ds es).map .dat) with
  | .ok (.dat .non) (.ins C' fs :: _) => if C' = C then .ok (.obj C fs) δ2 else .bad
  | _ => .bad
def PKm (X : Cx) (Γ : Cn) (kws : List Keyword) (m : M (List Dt)) : Prop := ∃ ta, PK X kws ta ∧ SoD Γ ta m
theorem qk_nil : PKm X Γ [] (mAll []) := ⟨_, pk_nil, fun F δ G H σ Q a k => k G (Same.refl _) [] H a .nil⟩
theorem qk_cons {kws : List Keyword} {nm : Option Str} {kpos : Pos} (ha : PM X Γ e m) (hr : PKm X Γ kws (mAll ks)) : PKm X Γ (⟨nm, e, kpos⟩ :: kws) (mAll (m :: ks)) := by
  obtain ⟨ta, h1, h2⟩ := ha
  obtain ⟨tb, h3, h4⟩ := hr
  refine ⟨_, pk_cons h1 h3, fun F δ G H σ Q a k => h2 F δ G H σ _ a ((OkR.bnd k).imp fun d δ1 G1 s1 k1 v H1 a1 r1 => h4 F δ1 G1 H1 σ _ a1 ((OkR.bnd k1).imp fun ds δ2 G2 s2 k2 vs H2 a2 r2 => ?_))⟩
  exact k2 G2 (Same.refl _) (v :: vs) H2 a2 (.cons (r1.mono s2) r2)
/-- gV puts values and defaults in their order, gD does so with data -/
def GvOk (K : PySem.W.Frag) (n m len : Nat) (gV : List V → List V → List V) (gD : List Dt → List Dt → List Dt) : Prop := ∀ x vs zs ds es, ds.length = n → es.length = m → (gD ds es).length = len ∧ ∃ us, gV (.ref x :: vs) zs = .ref x :: us ∧ ∀ G, DrAll K G vs ds → DrAll K G zs es → DrAll K G us (gD ds es)
variable {kws : List Keyword} {kn : List Str} {gV : List V → List V → List V} {gD : List Dt → List Dt → List Dt} {n1 len : Nat}
theorem so_makeK {ta tk : TA} {E : XK} (hgv : GvOk Γ.K ms.length ks.length len gV gD) (hn1 : ms.length = n1) (hl : len + 1 = n) (hkd : kd = some 0 :: List.replicate len none) (ha : SoD Γ ta (mAll ms)) (hb : SoD Γ tk (mAll ks)) : SoE Γ (tMakeK C n1 ks.length (spM Γ.K n kd c) gV E ta tk) (mMakeK C c ms ks gD) := fun F δ G H σ Q a k => by
  have hb1 := OkR.bnd k
  refine ha F δ G H σ _ a ?_
  cases hm : mAll ms δ with
  | bad => rw [hm] at hb1; exact hb1.elim
  | exc x δ' => rw [hm] at hb1; exact hb1
  | ok ds δ1 =>
    rw [hm] at hb1
    have hlen := mAll_len hm
    intro G1 s1 vs H1 a1 r1
    have hb2 := OkR.bnd (hb1 G1 s1)
    refine hb F δ1 G1 H1 σ _ a1 ?_
    cases hm2 : mAll ks δ1 with
    | bad => rw [hm2] at hb2; exact hb2.elim
    | exc x δ' => rw [hm2] at hb2; exact hb2
    | ok es δ2 =>
      rw [hm2] at hb2
      have hlen2 := mAll_len hm2
      intro G2 s2 zs H2 a2 r2
      refine ⟨by rw [r1.length, hlen]; exact hn1, by rw [r2.length, hlen2], fun x dx hx hd hne => ?_⟩
      obtain ⟨fs, outs, hc, k2⟩ := make_ok (hb2 G2 s2)
      obtain ⟨gl, us, eu, hu⟩ := hgv x vs zs ds es hlen hlen2
      rw [eu]
      exact make_fin a2 (hu G2 (r1.mono s2) r2) (by rw [gl]; exact hl) (by rw [gl]; exact hkd) hc (fun x' G' H' sG a' r' => k2 G' sG _ H' a' r') hx hd hne
theorem qe_makeK (cl : ClIK X.prog X.w X.K X.mg X.base k C x n1 kn gV (spM X.K n kd c)) (hr : Room j X.A) (hkj : k + 1 ≤ j) (hg : Gl X x) (hgv : GvOk Γ.K ms.length ks.length len gV gD) (ha : PD X Γ (e :: es) (mAll ms)) (hkw : PKm X Γ kws (mAll ks)) (hn1 : ms.length = n1 := by rfl) (hkn : kn.length = ks.length := by rfl) (hl : len + 1 = n := by rfl) (hkd : kd = some 0 :: List.replicate len none := by rfl)
    (hall : (backToKw pos (keywordEach kws X.env)).all (·.1.isSome) = true := by rfl) (hks : (backToKw pos (keywordEach kws X.env)).filterMap (·.1) = kn := by rfl) (hdb : (x == ("__debug__" : Str)) = false := by decide) (he : starEach (e :: es) X.env = (false, eval e X.env) :: starEach es X.env := by rfl)
    (hpl : ((backTo pos (starEach (e :: es) X.env)).any (·.1) || (backToKw pos (keywordEach kws X.env)).any (·.1.isNone)) = false := by rfl) : PM X Γ (.Call (.Name x p) (e :: es) kws pos) (mMakeK C c ms ks gD) := by
  obtain ⟨ta, h1, h2⟩ := ha
  obtain ⟨tk, h3, h4⟩ := hkw
  refine ⟨_, pe_mkK cl hr hkj hg h1 h3 hall hks hdb he hpl, ?_⟩
  rw [hkn, L.k]
  exact so_makeK hgv hn1 hl hkd h2 h4
theorem qe_makeK0 (cl : ClIK X.prog X.w X.K X.mg X.base k C x 0 kn gV (spM X.K n kd c)) (hr : Room j X.A) (hkj : k + 1 ≤ j) (hg : Gl X x) (hgv : GvOk Γ.K 0 ks.length len gV gD) (hkw : PKm X Γ kws (mAll ks)) (hkn : kn.length = ks.length := by rfl) (hl : len + 1 = n := by rfl) (hkd : kd = some 0 :: List.replicate len none := by rfl)
    (hall : (backToKw pos (keywordEach kws X.env)).all (·.1.isSome) = true := by rfl) (hks : (backToKw pos (keywordEach kws X.env)).filterMap (·.1) = kn := by rfl) (hdb : (x == ("__debug__" : Str)) = false := by decide)
    (hpl : ((backTo pos (starEach [] X.env)).any (·.1) || (backToKw pos (keywordEach kws X.env)).any (·.1.isNone)) = false := by rfl) : PM X Γ (.Call (.Name x p) [] kws pos) (mMakeK C c [] ks gD) := by
  obtain ⟨tk, h3, h4⟩ := hkw
  refine ⟨_, pe_mkK0 cl hr hkj hg h3 hall hks hdb hpl, ?_⟩
  rw [hkn, L.k]
  exact so_makeK (ms := []) hgv rfl hl hkd (fun F δ G H σ Q a k => k G (Same.refl _) [] H a .nil) h4
/-! ### o.m(..) -/
def mMeth (C : Addr) (nm : Str) (c : List Sv → Res Sv) (o : M Dt) (ags : List Ag) : M Sv := fun δ => (o δ).bnd fun d δ1 => match d with
  | .obj C' fs => if C' = C ∧ fs.lookup nm = none then (mAgs ags δ1).bnd fun ds δ2 => (match c (.dat (.obj C' fs) :: pickA δ2 ags ds) with
    | .ok s outs => .ok s (backS δ2 (none :: ags.map Ag.kind) outs)
    | _ => .bad) else .bad
  | _ => .bad
theorem so_meth {ta : TE} {t : TA} {E : XK} {nm : Str} (hl : ags.length + 1 = n) (hu : ((ags.map Ag.kind).filterMap id).Nodup) (hk : kd = kdOf 0 (none :: ags.map Ag.kind)) (ho : SoE Γ ta m) (ha : SoAg Γ t ags) : SoV Γ (tMeth C nm (spM Γ.K n kd c) [] E ta t) (mMeth C nm c m ags) := fun F δ G H σ Q at_ k =>
  ho F δ G H σ _ at_ ((OkR.bnd k).imp fun d δ1 G1 s1 k1 v H1 a1 r1 => by
    cases d with
    | obj C' fs =>
      obtain ⟨⟨hC, hlk⟩, k1'⟩ := if_ok k1
      subst hC
      have r1' := r1
      cases r1 with
      | @obj b _ dx us _ q1 q2 q3 =>
        refine ⟨b, dx, us, rfl, a1.sub _ _ q1, q3.lookN hlk, ha F δ1 G1 H1 σ _ a1 ((OkR.bnd k1').imp fun ds δ2 G2 s2 k2 ws H2 a2 r2 => ?_)⟩
        rw [List.append_nil]
        have ek : ((Ag.ex (mC (.obj C' fs)) :: ags).map Ag.kind) = none :: ags.map Ag.kind := rfl
        have r3 : AgOk Γ.K G2 σ (.ref b :: ws) (.ex (mC (.obj C' fs)) :: ags) (.obj C' fs :: ds) := .ex (r1'.mono s2) r2
        obtain ⟨M, a3, back⟩ := a2.call (kd := kd) r3 (once_of (by rw [ek, List.filterMap_cons]; exact hu)) (sameKd_of (by rw [ek]; exact hk))
        refine ⟨r3.len.trans hl, G2, M, _, a3, fun k s hs => ?_, ?_⟩
        · rcases r3.at_ hs with ⟨u, d, rfl, _⟩ | ⟨u, j, e, _⟩
          · exact .inl ⟨d, rfl⟩
          · exact .inr ((sameKd_of (by rw [ek]; exact hk) k).2.mpr ⟨j, e⟩)
        · have ep : pickA δ2 (.ex (mC (.obj C' fs)) :: ags) (.obj C' fs :: ds) = .dat (.obj C' fs) :: pickA δ2 ags ds := rfl
          rw [ep] at back ⊢
          rw [ek] at back
          cases q : c (.dat (.obj C' fs) :: pickA δ2 ags ds) with
          | ok s outs =>
            rw [q] at k2
            exact fun v G' H' sG a4 => k2 G' sG v H' (back outs s v G' H' a4)
          | exc x outs => rw [q] at k2; exact k2.elim
          | bad => rw [q] at k2; exact k2.elim
    | _ => exact k1.elim)
theorem qo_meth {pl : Sem Bool} {nm : Str} (cl : ClM X.prog X.w X.K X.mg X.base k C nm (spM X.K n kd c)) (cc : Cls X.K C) (hr : Room j X.A) (hkj : k ≤ j) (ho : PM X Γ o m) (ha : PAg X Γ (e :: es) ags) (hl : ags.length + 1 = n := by rfl) (hu : ((ags.map Ag.kind).filterMap id).Nodup := by simp [Ag.kind]) (hk : kd = kdOf 0 (none :: ags.map Ag.kind) := by rfl)
    (hst : starEach (e :: es) X.env = (false, eval e X.env) :: starEach es X.env := by rfl) (hpl : (backTo pos (starEach es X.env)).any (·.1) = false := by rfl)
    (ht : eval (.Call (.Attribute o nm apos) (e :: es) [] pos) X.env = (do
      let ov ← eval o X.env
      standAt apos.atName
      let (f, first) ← holding [ov] (getMethod ov nm pl)
      callWith pos f first (backTo pos (starEach (e :: es) X.env)) (backToKw pos (keywordEach [] X.env))) := by rfl) : PV X Γ (.Call (.Attribute o nm apos) (e :: es) [] pos) (mMeth C nm c m ags) := by
  obtain ⟨ta, h1, h2⟩ := ho
  obtain ⟨t, h3, h4⟩ := ha
  refine ⟨_, pe_mt cl cc hr hkj h1 h3 hst hpl ht, ?_⟩
  rw [L.k]
  exact so_meth hl hu hk h2 h4
theorem qo_meth0 {pl : Sem Bool} {nm : Str} (cl : ClM X.prog X.w X.K X.mg X.base k C nm (spM X.K n kd c)) (cc : Cls X.K C) (hr : Room j X.A) (hkj : k ≤ j) (ho : PM X Γ o m) (hl : 1 = n := by rfl) (hk : kd = [none] := by rfl)
    (ht : eval (.Call (.Attribute o nm apos) [] [] pos) X.env = (do
      let ov ← eval o X.env
      standAt apos.atName
      let (f, first) ← holding [ov] (getMethod ov nm pl)
      callWith pos f first (backTo pos (starEach [] X.env)) (backToKw pos (keywordEach [] X.env))) := by rfl) : PV X Γ (.Call (.Attribute o nm apos) [] [] pos) (mMeth C nm c m []) := by
  obtain ⟨ta, h1, h2⟩ := ho
  refine ⟨_, pe_mt0 cl cc hr hkj h1 ht, ?_⟩
  rw [L.k]
  exact so_meth (ags := []) hl (by simp) hk h2 fun F δ G H σ Q a k => k G (Same.refl _) [] H a .nil
end

/-! ### operators by the class's own defs -/
theorem At.args {K : PySem.W.Frag} {G H : Hp} (s : Same G H) : ∀ {vs : List V} {ds : List Dt}, DrAll K G vs ds → At (Cn.zero K) ⟨G, H, fun _ => False⟩ (ds.map .dat) G H (vs.map some) := fun {vs ds} r =>
  ⟨s, Same.refl G, fun b u e g _ => ⟨g, e⟩, fun b h => h, by rw [List.length_map, List.length_map, r.length], Nat.zero_le _, (fun i hi => nomatch hi), fun _ => [], fun i t ht => by
    rw [List.getElem?_map] at ht
    cases q : ds[i]? with
    | none => rw [q] at ht; cases ht
    | some d =>
      rw [q] at ht
      cases ht
      obtain ⟨v, hv, rv⟩ := r.getD q
      rw [List.getElem?_map, hv]
      exact ⟨rfl, v, rfl, rv⟩, fun i _ => rfl, (fun i j b hb => nomatch hb), (fun i b hb => nomatch hb)⟩
/-- a call on data that answers a datum -/
theorem spM_data {K : PySem.W.Frag} {n : Nat} {c : List Sv → Res Sv} {G H : Hp} {vs : List V} {ds : List Dt} {d : Dt} {outs : List Sv} {Q : VK} {E : XK} (s : Same G H) (r : DrAll K G vs ds) (hn : ds.length = n) (hc : c (ds.map .dat) = .ok (.dat d) outs)
    (k : ∀ v G' H', Fr (W0 K) G H G' H' → Same G' H' → Dr K G' v d → Q v H') : spM K n (List.replicate n none) c vs H Q E := by
  refine ⟨by rw [r.length, hn], G, fun _ => False, ds.map .dat, At.args s r, fun k s hs => ?_, ?_⟩
  · rw [List.getElem?_map] at hs
    cases q : ds[k]? with
    | none => rw [q] at hs; cases hs
    | some d => rw [q] at hs; cases hs; exact .inl ⟨d, rfl⟩
  · rw [hc]
    intro v G' H' sG a
    obtain ⟨a1, r1⟩ := a.popD (Nat.zero_le _)
    exact k v G' H' ⟨sG, fun b u e g => let ⟨z1, z2⟩ := a.fr b u e g (fun z => z); ⟨z1, fun _ => z2⟩⟩ a.sub r1
/-- the answer of a def on data -/
def ansD (c : List Sv → Res Sv) (ds : List Dt) : Option Dt := match c (ds.map .dat) with
  | .ok (.dat d) _ => some d
  | _ => none
theorem ansD_some {c : List Sv → Res Sv} {ds : List Dt} {d : Dt} (h : ansD c ds = some d) : ∃ outs, c (ds.map .dat) = .ok (.dat d) outs := by
  unfold ansD at h
  split at h
  · rename_i outs e; cases h; exact ⟨outs, e⟩
  · cases h
section
variable {K : PySem.W.Frag} {C : Addr} {c : List Sv → Res Sv}
def ansB (c : List Sv → Res Sv) (ds : List Dt) : Option Bool := match ansD c ds with
  | some (.bl b) => some b
  | _ => none
theorem ansB_some {c : List Sv → Res Sv} {ds : List Dt} {b : Bool} (h : ansB c ds = some b) : ∃ outs, c (ds.map .dat) = .ok (.dat (.bl b)) outs := by
  unfold ansB at h
  split at h
  · rename_i e; cases h; exact ansD_some e
  · cases h
def isObj (C : Addr) : Dt → Bool
  | .obj C' _ => decide (C' = C)
  | _ => false
theorem isObj_t {x : Dt} (h : isObj C x = true) : ∃ fs, x = .obj C fs := by
  unfold isObj at h
  split at h
  · rename_i C' fs
    have := of_decide_eq_true h
    subst this
    exact ⟨fs, rfl⟩
  · cases h
instance decNotLst (y : Dt) : Decidable (∀ ds, y ≠ .lst ds) := match y with
  | .lst ds => .isFalse fun h => h ds rfl
  | .non | .bl _ | .int _ | .str _ | .tup _ | .scr _ | .dct _ | .raw _ | .obj _ _ => .isTrue fun ds h => by cases h
/-- x == y by the class's __eq__ -/
def eqBo (C : Addr) (c : List Sv → Res Sv) (x y : Dt) : Option Bool :=
  if isObj C x = true then (if isObj C y = true ∨ ((tyD y).isSome = true ∧ ∀ ds, y ≠ .lst ds) then ansB c [x, y] else none)
  else if isObj C y = true then (match x with
    | .non | .int _ | .bl _ | .str _ | .tup _ => ansB c [y, x]
    | _ => none)
  else eqB x y
def eqO (C : Addr) (c : List Sv → Res Sv) (x y : Dt) : Option Dt := (eqBo C c x y).map Dt.bl
def neO (C : Addr) (c : List Sv → Res Sv) (x y : Dt) : Option Dt := (eqBo C c x y).map fun b => .bl (!b)
def rEqM (K : PySem.W.Frag) (C : Addr) (sp : Sp) : R2 := fun x y H Q => rEqP K x y H Q ∨ (rEqO K C sp x y H Q ∨ rEqRf K C sp x y H Q)
def rNeM (K : PySem.W.Frag) (C : Addr) (sp : Sp) : R2 := fun x y H Q => rNeP K x y H Q ∨ (rNeO K C sp x y H Q ∨ rNeRf K C sp x y H Q)
theorem opEqM {X : Cx} {j k : Nat} {sp : Sp} (hu : X.A.units + 65 < cLine) (kd : KdE X.K C) (cl : ClM X.prog X.w X.K X.mg X.base k C "__eq__" sp) (hr : Room j X.A) (hk : k ≤ j) : OpR X (compareOp .Eq) (rEqM X.K C sp) :=
  (opEqP hu).or ((opEqO cl hr hk).or (opEqRf kd.kd kd.hN kd.hi kd.hb kd.hs cl hr hk))
theorem opNeM {X : Cx} {j k : Nat} {sp : Sp} (hu : X.A.units + 65 < cLine) (kd : KdE X.K C) (cl : ClM X.prog X.w X.K X.mg X.base k C "__eq__" sp) (hr : Room j X.A) (hk : k + 1 ≤ j) : OpR X (compareOp .NotEq) (rNeM X.K C sp) :=
  (opNeP hu).or ((opNeO kd.kd cl hr hk).or (opNeRf kd cl hr hk))
theorem dv_obj {G H : Hp} {v : V} {fs : List (Str × Dt)} (h : Dv (W0 K) G H v (.obj C fs)) : Dr K G v (.obj C fs) := h.drO
theorem dv_ty {G H : Hp} {v : V} {y : Dt} (g : Same G H) (h : Dv (W0 K) G H v y) (hy : isObj C y = true ∨ (tyD y).isSome = true) : TyN K C H v := by
  rcases hy with hy | hy
  · obtain ⟨gs, rfl⟩ := isObj_t hy
    cases h.drO with
    | @obj a _ dx us _ h1 h2 h3 => exact .inl ⟨a, dx, us, rfl, g _ _ h1⟩
  · cases q : tyD y with
    | none => rw [q] at hy; cases hy
    | some T => exact .inr ⟨T, ty_of (good0 g) h q, tyD_noRef q⟩
theorem dv_nl {G H : Hp} {v : V} {y : Dt} (h : Dv (W0 K) G H v y) (hy : ∀ ds, y ≠ .lst ds) : Dr K G v y := by
  rcases h with h | ⟨a, xs, ds, rfl, rfl, _⟩
  · exact h
  · exact absurd rfl (hy ds)
theorem obj_nl {fs : List (Str × Dt)} : ∀ ds, Dt.obj C fs ≠ .lst ds := fun ds h => by cases h
theorem eqBo_run {x y : Dt} {b : Bool} (h : eqBo C c x y = some b) : eqB x y = some b ∨ (∃ fs, x = .obj C fs ∧ (isObj C y = true ∨ (tyD y).isSome = true) ∧ (∀ ds, y ≠ .lst ds) ∧ ansB c [x, y] = some b) ∨
    ∃ fs, y = .obj C fs ∧ (x = .non ∨ (∃ i, x = .int i) ∨ (∃ b, x = .bl b) ∨ (∃ z, x = .str z) ∨ ∃ ds, x = .tup ds) ∧ ansB c [y, x] = some b := by
  unfold eqBo at h
  split at h
  · rename_i hx
    obtain ⟨fs, rfl⟩ := isObj_t hx
    split at h
    · rename_i hy
      refine .inr (.inl ⟨fs, rfl, hy.imp id And.left, ?_, h⟩)
      rcases hy with hy | hy
      · obtain ⟨gs, rfl⟩ := isObj_t hy
        exact obj_nl
      · exact hy.2
    · cases h
  · split at h
    · rename_i hy
      obtain ⟨fs, rfl⟩ := isObj_t hy
      refine .inr (.inr ⟨fs, rfl, ?_⟩)
      split at h
      · exact ⟨.inl rfl, h⟩
      · exact ⟨.inr (.inl ⟨_, rfl⟩), h⟩
      · exact ⟨.inr (.inr (.inl ⟨_, rfl⟩)), h⟩
      · exact ⟨.inr (.inr (.inr (.inl ⟨_, rfl⟩))), h⟩
      · exact ⟨.inr (.inr (.inr (.inr ⟨_, rfl⟩))), h⟩
      · cases h
    · exact .inl h
theorem refl_v {G H : Hp} {w : V} {y : Dt} (g : Same G H) (hw : Dv (W0 K) G H w y) (hy : y = .non ∨ (∃ i, y = .int i) ∨ (∃ b, y = .bl b) ∨ (∃ z, y = .str z) ∨ ∃ ds, y = .tup ds) : (w = .non ∨ (∃ i, w = .int i) ∨ (∃ b, w = .bl b) ∨ (∃ z, w = .str z) ∨ ∃ t xs, w = .ref t ∧ SqT K H t xs) ∧ Dr K G w y := by
  rcases hy with rfl | ⟨i, rfl⟩ | ⟨b, rfl⟩ | ⟨z, rfl⟩ | ⟨ds, rfl⟩
  · cases hw.non; exact ⟨.inl rfl, .non⟩
  · cases hw.int; exact ⟨.inr (.inl ⟨i, rfl⟩), .int _⟩
  · cases hw.bl; exact ⟨.inr (.inr (.inl ⟨b, rfl⟩)), .bl _⟩
  · cases hw.str; exact ⟨.inr (.inr (.inr (.inl ⟨z, rfl⟩))), .str _⟩
  · obtain ⟨a, us, rfl, h1, h2⟩ := hw.tup
    exact ⟨.inr (.inr (.inr (.inr ⟨a, us, rfl, sqT_mono g h1⟩))), .tup h1 h2⟩
theorem eq_call {G H : Hp} {v w : V} {x y : Dt} {b : Bool} {Q : VK} {E : XK} (g : Same G H) (rx : Dr K G v x) (ry : Dr K G w y) (h : ansB c [x, y] = some b) (k : ∀ G' H', Fr (W0 K) G H G' H' → Same G' H' → Q (.bl b) H') : spM K 2 [none, none] c [v, w] H Q E := by
  obtain ⟨outs, hc⟩ := ansB_some h
  exact spM_data (n := 2) g (.cons rx (.cons ry .nil)) rfl hc fun u G' H' f s r => by cases r; exact k G' H' f s
theorem os_eqO : OpS K (rEqM K C (spM K 2 [none, none] c)) (eqO C c) := fun x y z h => by
  unfold eqO at h
  cases e : eqBo C c x y with
  | none => rw [e] at h; cases h
  | some b =>
    rw [e] at h
    cases h
    intro G H v w Q g hv hw k
    rcases eqBo_run e with h1 | ⟨fs, rfl, h1, h2, h3⟩ | ⟨fs, rfl, h1, h2⟩
    · exact .inl (os_eq x y (.bl b) (by unfold eqD; rw [h1]; rfl) G H v w Q g hv hw k)
    · have rv := dv_obj hv
      have rw' := dv_nl hw h2
      have rv' := rv
      cases rv with
      | @obj a _ dx us _ q1 q2 q3 => exact .inr (.inl ⟨a, dx, us, rfl, g.sub _ _ q1, dv_ty g.sub hw h1, eq_call g.sub rv' rw' h3 fun G' H' f s => ⟨b, rfl, k _ _ G' H' f (good0 s) (.bl b) rfl⟩⟩)
    · have rw' := dv_obj hw
      have rw2 := rw'
      obtain ⟨hv1, hv2⟩ := refl_v g.sub hv h1
      cases rw' with
      | @obj a _ dx us _ q1 q2 q3 => exact .inr (.inr ⟨a, dx, us, rfl, g.sub _ _ q1, hv1, eq_call g.sub rw2 hv2 h2 fun G' H' f s => ⟨b, rfl, k _ _ G' H' f (good0 s) (.bl b) rfl⟩⟩)
theorem os_neO : OpS K (rNeM K C (spM K 2 [none, none] c)) (neO C c) := fun x y z h => by
  unfold neO at h
  cases e : eqBo C c x y with
  | none => rw [e] at h; cases h
  | some b =>
    rw [e] at h
    cases h
    intro G H v w Q g hv hw k
    rcases eqBo_run e with h1 | ⟨fs, rfl, h1, h2, h3⟩ | ⟨fs, rfl, h1, h2⟩
    · exact .inl (os_ne x y (.bl (!b)) (by unfold neD; rw [h1]; rfl) G H v w Q g hv hw k)
    · have rv := dv_obj hv
      have rw' := dv_nl hw h2
      have rv' := rv
      cases rv with
      | @obj a _ dx us _ q1 q2 q3 => exact .inr (.inl ⟨a, dx, us, rfl, g.sub _ _ q1, dv_ty g.sub hw h1, eq_call g.sub rv' rw' h3 fun G' H' f s => ⟨b, rfl, k _ _ G' H' f (good0 s) (.bl _) rfl⟩⟩)
    · have rw' := dv_obj hw
      have rw2 := rw'
      obtain ⟨hv1, hv2⟩ := refl_v g.sub hv h1
      cases rw' with
      | @obj a _ dx us _ q1 q2 q3 => exact .inr (.inr ⟨a, dx, us, rfl, g.sub _ _ q1, hv1, eq_call g.sub rw2 hv2 h2 fun G' H' f s => ⟨b, rfl, k _ _ G' H' f (good0 s) (.bl _) rfl⟩⟩)
/-! len(x), repr(x), bool(x) -/
def lenO (C : Addr) (c : List Sv → Res Sv) (x : Dt) : Option Dt := if isObj C x = true then (match ansD c [x] with
    | some (.int n) => if 0 ≤ n ∧ n ≤ 100000 then some (.int n) else none
    | _ => none) else lenD x
theorem cs_lenO : CS1 K (fun xs H Q => Pd.rLen K xs H Q ∨ rLenO C (spM K 1 [none] c) xs H Q) (lenO C c) := fun x z h => by
  unfold lenO at h
  split at h
  · rename_i hx
    obtain ⟨fs, rfl⟩ := isObj_t hx
    split at h
    · rename_i n hn
      split at h
      · rename_i hb
        cases h
        intro G H vs Q g hv k
        obtain ⟨v, rfl, r⟩ := dv1 hv
        have rv := r.drO
        have rv' := rv
        obtain ⟨outs, hc⟩ := ansD_some hn
        cases rv with
        | @obj a _ dx us _ q1 q2 q3 =>
          exact .inr ⟨a, dx, us, rfl, g.sub _ _ q1, spM_data (n := 1) g.sub (.cons rv' .nil) rfl hc fun u G' H' f s r => by
            cases r
            exact ⟨n.toNat, by rw [Int.toNat_of_nonneg hb.1], by omega, k _ _ G' H' f (good0 s) (.int n) rfl⟩⟩
      · cases h
    · cases h
  · intro G H vs Q g hv k
    exact .inl (cs_len x z h G H vs Q g hv k)
theorem callLenM {X : Cx} {j k : Nat} {sp : Sp} (cl : ClM X.prog X.w X.K X.mg X.base k C "__len__" sp) (hr : Room j X.A) (hk : k + 1 ≤ j) : CallR X (.builtin "len") (fun xs H Q => Pd.rLen X.K xs H Q ∨ rLenO C sp xs H Q) := fun pins s σ H xs us Q I r h =>
  h.elim (callLen pins s σ H xs us Q I r) (callLenO cl hr hk pins s σ H xs us Q I r)
def reprO (C : Addr) (c : List Sv → Res Sv) (x : Dt) : Option Dt := if isObj C x = true then (match ansD c [x] with
    | some (.str z) => some (.str z)
    | _ => none) else reprD x
theorem cs_reprO : CS1 K (fun xs H Q => Pg.rRepr K xs H Q ∨ rReprO C (spM K 1 [none] c) xs H Q) (reprO C c) := fun x z h => by
  unfold reprO at h
  split at h
  · rename_i hx
    obtain ⟨fs, rfl⟩ := isObj_t hx
    split at h
    · rename_i t ht
      cases h
      intro G H vs Q g hv k
      obtain ⟨v, rfl, r⟩ := dv1 hv
      have rv := r.drO
      have rv' := rv
      obtain ⟨outs, hc⟩ := ansD_some ht
      cases rv with
      | @obj a _ dx us _ q1 q2 q3 =>
        exact .inr ⟨a, dx, us, rfl, g.sub _ _ q1, spM_data (n := 1) g.sub (.cons rv' .nil) rfl hc fun u G' H' f s r => by
          cases r
          exact ⟨t, rfl, k _ _ G' H' f (good0 s) (.str t) rfl⟩⟩
    · cases h
  · intro G H vs Q g hv k
    exact .inl (cs_repr x z h G H vs Q g hv k)
theorem callReprM {X : Cx} {j k : Nat} {sp : Sp} (hgd : X.A.guards = some []) (cl : ClM X.prog X.w X.K X.mg X.base k C "__repr__" sp) (hr : Room j X.A) (hk : k + 1 ≤ j) : CallR X (.builtin "repr") (fun xs H Q => Pg.rRepr X.K xs H Q ∨ rReprO C sp xs H Q) := fun pins s σ H xs us Q I r h =>
  h.elim (Pg.call_repr hgd hr.units pins s σ H xs us Q I r) (callReprO cl hr hk pins s σ H xs us Q I r)
def boolO (C : Addr) (x : Dt) : Option Dt := if isObj C x = true then some (.bl true) else none
theorem cs_boolO : CS1 K (rBoolO C) (boolO C) := fun x z h => by
  unfold boolO at h
  split at h
  · rename_i hx
    obtain ⟨fs, rfl⟩ := isObj_t hx
    cases h
    exact cd_boolO rfl
  · cases h
/-! isinstance -/
/-- tb: what is known of the classes of the text -/
def TbOk (K : PySem.W.Frag) (tb : Addr → V → Option Bool) : Prop := ∀ C c b, tb C c = some b → Po.Kd K C ∧ ∃ u, ClsV c u ∧ PySem.W.kitOne K (.ref C) u = some b
def ClsOk (K : PySem.W.Frag) (cs : List Addr) : Prop := ∀ C ∈ cs, Po.Kd K C
def isiD (tb : Addr → V → Option Bool) (cs : List Addr) : Dt → Dt → Option Dt
  | x, .raw c => match tyD x with
    | some t => (match c with
      | .ty T => (kitB t T).map Dt.bl
      | .ref C => if cs.contains C = true then some (.bl false) else none
      | _ => none)
    | none => (match x with
      | .obj C _ => (tb C c).map Dt.bl
      | _ => none)
  | _, _ => none
theorem cs_isi {tb : Addr → V → Option Bool} {cs : List Addr} (ht : TbOk K tb) (hcs : ClsOk K cs) : CS2 K (rIsi K) (isiD tb cs) := fun x y z h => by
  unfold isiD at h
  split at h
  · rename_i c
    split at h
    · rename_i t ety
      split at h
      · rename_i T
        cases q : kitB t T with
        | none => rw [q] at h; cases h
        | some b => rw [q] at h; cases h; exact cd_isi ety q rfl
      · rename_i C
        split at h
        · rename_i hC
          cases h
          exact cd_isiN (hcs C (by simpa using hC)) ety rfl
        · cases h
      · cases h
    · split at h
      · rename_i C fs _
        cases q : tb C c with
        | none => rw [q] at h; cases h
        | some b =>
          rw [q] at h
          cases h
          obtain ⟨kd, u, hu, hk⟩ := ht C c b q
          exact cd_of (fun G H vs Q g hv k => by
            obtain ⟨v, w, rfl, r, r2⟩ := dv2 hv
            cases r2.raw
            cases r.drO with
            | @obj a _ dx us _ h1 h2 h3 => exact ⟨.ref a, c, .ref C, u, b, rfl, hu, .base (.ins (g.sub _ _ h1) kd.cl kd.ha kd.hn kd.htk kd.hm), hk, k _ (.bl _)⟩) rfl
      · cases h
  · cases h
end
end Qm

set_option Elab.async false
set_option linter.all false
set_option maxRecDepth 100000
set_option maxHeartbeats 2000000
namespace Qm
open PySem PySem.Spec PyProof.Rows L2 Pd
/-! the rules by their Python words -/
section
variable {X : Cx} {Γ : Cn} {F : Fm} [L : Lk X Γ]
variable {e e1 e2 e3 tg o : Expr} {es : List Expr} {pos p apos : Pos} {g g1 g2 g3 : Rg} {m m1 m2 m3 : M Dt} {b1 b2 : M Bool} {x : Str} {C : Addr} {c : List Sv → Res Sv} {j k : Nat}
theorem _root_.L2.OpR.wq {f : Value → Value → Sem Value} {r : PySem.W.Frag → R2} (h : OpR X f (r X.K)) : OpR X f (r Γ.K) := L.k ▸ h
theorem _root_.L2.CallR.wq {f : Value} {r : PySem.W.Frag → List V → Hp → VK → Prop} (h : CallR X f (r X.K)) : CallR X f (r Γ.K) := L.k ▸ h
theorem _root_.L2.IxR.wq {r : PySem.W.Frag → R2} (h : L2.IxR X (r X.K)) : L2.IxR X (r Γ.K) := L.k ▸ h
def mNo {α : Type} : M α := fun _ => .bad
theorem qe_no : PM X Γ e mNo := ⟨fun _ _ _ => False, ⟨fun _ _ _ _ _ _ h => h.elim⟩, fun F δ G H σ Q a k => k.elim⟩
theorem qo_no : PV X Γ e mNo := ⟨fun _ _ _ => False, ⟨fun _ _ _ _ _ _ h => h.elim⟩, fun F δ G H σ Q a k => k.elim⟩
theorem qt_no : PB X Γ e mNo := ⟨fun _ _ _ => False, ⟨fun _ _ _ _ _ _ h => h.elim⟩, fun F δ G H σ Q a k => k.elim⟩
theorem qi_no {it : Expr} : PIt X Γ tg it mNo := ⟨fun _ _ _ => False, ⟨fun _ _ _ _ _ _ h => h.elim⟩, fun F δ G H σ Q a k => k.elim⟩

theorem qe_add (ha : PR X Γ e1 g1) (hb : PR X Γ e2 g2) : PM X Γ (.BinOp e1 .Add e2 pos) (mOp addD g1 g2) := qe_op (OpR.wq (r := rAddA) opAdd) os_add ha hb
theorem qe_sub (ha : PR X Γ e1 g1) (hb : PR X Γ e2 g2) : PM X Γ (.BinOp e1 .Sub e2 pos) (mOp subD g1 g2) := qe_op op_sub os_sub ha hb
theorem qe_mul (ha : PR X Γ e1 g1) (hb : PR X Γ e2 g2) : PM X Γ (.BinOp e1 .Mult e2 pos) (mOp mulD g1 g2) := qe_op opMulB os_mul ha hb
theorem qe_mod (ha : PR X Γ e1 g1) (hb : PR X Γ e2 g2) : PM X Γ (.BinOp e1 .Mod e2 pos) (mOp modD g1 g2) := qe_op op_mod os_mod ha hb
theorem qe_div (ha : PR X Γ e1 g1) (hb : PR X Γ e2 g2) : PM X Γ (.BinOp e1 .FloorDiv e2 pos) (mOp divD g1 g2) := qe_op op_fdivW os_div ha hb
theorem qe_pow (ha : PR X Γ e1 g1) (hb : PR X Γ e2 g2) : PM X Γ (.BinOp e1 .Pow e2 pos) (mOp powD g1 g2) := qe_op op_pow os_pow ha hb
theorem qe_lt (ha : PR X Γ e1 g1) (hb : PR X Γ e2 g2) : PM X Γ (.Compare e1 [.Lt] [e2] pos) (mOp ltD g1 g2) := qe_cmp op_lt os_lt ha hb (nomark _)
theorem qt_lt (ha : PR X Γ e1 g1) (hb : PR X Γ e2 g2) : PB X Γ (.Compare e1 [.Lt] [e2] pos) (fun δ => mBl (mOp ltD g1 g2 δ)) := qt_cmp op_lt os_lt ha hb (nomark _)
theorem qe_le (ha : PR X Γ e1 g1) (hb : PR X Γ e2 g2) : PM X Γ (.Compare e1 [.LtE] [e2] pos) (mOp leD g1 g2) := qe_cmp op_le os_le ha hb (nomark _)
theorem qt_le (ha : PR X Γ e1 g1) (hb : PR X Γ e2 g2) : PB X Γ (.Compare e1 [.LtE] [e2] pos) (fun δ => mBl (mOp leD g1 g2 δ)) := qt_cmp op_le os_le ha hb (nomark _)
theorem qe_gt (ha : PR X Γ e1 g1) (hb : PR X Γ e2 g2) : PM X Γ (.Compare e1 [.Gt] [e2] pos) (mOp gtD g1 g2) := qe_cmp op_gt os_gt ha hb (nomark _)
theorem qt_gt (ha : PR X Γ e1 g1) (hb : PR X Γ e2 g2) : PB X Γ (.Compare e1 [.Gt] [e2] pos) (fun δ => mBl (mOp gtD g1 g2 δ)) := qt_cmp op_gt os_gt ha hb (nomark _)
theorem qe_ge (ha : PR X Γ e1 g1) (hb : PR X Γ e2 g2) : PM X Γ (.Compare e1 [.GtE] [e2] pos) (mOp geD g1 g2) := qe_cmp op_ge os_ge ha hb (nomark _)
theorem qt_ge (ha : PR X Γ e1 g1) (hb : PR X Γ e2 g2) : PB X Γ (.Compare e1 [.GtE] [e2] pos) (fun δ => mBl (mOp geD g1 g2 δ)) := qt_cmp op_ge os_ge ha hb (nomark _)
theorem qe_eq (ha : PR X Γ e1 g1) (hb : PR X Γ e2 g2) : PM X Γ (.Compare e1 [.Eq] [e2] pos) (mOp eqD g1 g2) := qe_cmp (OpR.wq (r := rEqP) (opEqP L.un)) os_eq ha hb (nomark _)
theorem qt_eq (ha : PR X Γ e1 g1) (hb : PR X Γ e2 g2) : PB X Γ (.Compare e1 [.Eq] [e2] pos) (fun δ => mBl (mOp eqD g1 g2 δ)) := qt_cmp (OpR.wq (r := rEqP) (opEqP L.un)) os_eq ha hb (nomark _)
theorem qe_ne (ha : PR X Γ e1 g1) (hb : PR X Γ e2 g2) : PM X Γ (.Compare e1 [.NotEq] [e2] pos) (mOp neD g1 g2) := qe_cmp (OpR.wq (r := rNeP) (opNeP L.un)) os_ne ha hb (nomark _)
theorem qt_ne (ha : PR X Γ e1 g1) (hb : PR X Γ e2 g2) : PB X Γ (.Compare e1 [.NotEq] [e2] pos) (fun δ => mBl (mOp neD g1 g2 δ)) := qt_cmp (OpR.wq (r := rNeP) (opNeP L.un)) os_ne ha hb (nomark _)
theorem qe_in (ha : PR X Γ e1 g1) (hb : PR X Γ e2 g2) (hm : behindInMarks .In e2 = false := by rfl) : PM X Γ (.Compare e1 [.In] [e2] pos) (mOp inD g1 g2) := qe_cmp (OpR.wq (r := rInP) (opInP L.un)) os_in ha hb hm
theorem qt_in (ha : PR X Γ e1 g1) (hb : PR X Γ e2 g2) (hm : behindInMarks .In e2 = false := by rfl) : PB X Γ (.Compare e1 [.In] [e2] pos) (fun δ => mBl (mOp inD g1 g2 δ)) := qt_cmp (OpR.wq (r := rInP) (opInP L.un)) os_in ha hb hm
theorem qe_notin (ha : PR X Γ e1 g1) (hb : PR X Γ e2 g2) (hm : behindInMarks .NotIn e2 = false := by rfl) : PM X Γ (.Compare e1 [.NotIn] [e2] pos) (mOp notInD g1 g2) := qe_cmp (OpR.wq (r := rNotInP) (opNotInP L.un)) os_notIn ha hb hm
theorem qt_notin (ha : PR X Γ e1 g1) (hb : PR X Γ e2 g2) (hm : behindInMarks .NotIn e2 = false := by rfl) : PB X Γ (.Compare e1 [.NotIn] [e2] pos) (fun δ => mBl (mOp notInD g1 g2 δ)) := qt_cmp (OpR.wq (r := rNotInP) (opNotInP L.un)) os_notIn ha hb hm
theorem qe_eqO (kd : KdE X.K C) (cl : ClM X.prog X.w X.K X.mg X.base k C "__eq__" (spM X.K 2 [none, none] c)) (hr : Room j X.A) (hk : k ≤ j) (ha : PR X Γ e1 g1) (hb : PR X Γ e2 g2) : PM X Γ (.Compare e1 [.Eq] [e2] pos) (mOp (eqO C c) g1 g2) := qe_cmp (OpR.wq (r := fun K => rEqM K C (spM K 2 [none, none] c)) (opEqM L.un kd cl hr hk)) os_eqO ha hb (nomark _)
theorem qt_eqO (kd : KdE X.K C) (cl : ClM X.prog X.w X.K X.mg X.base k C "__eq__" (spM X.K 2 [none, none] c)) (hr : Room j X.A) (hk : k ≤ j) (ha : PR X Γ e1 g1) (hb : PR X Γ e2 g2) : PB X Γ (.Compare e1 [.Eq] [e2] pos) (fun δ => mBl (mOp (eqO C c) g1 g2 δ)) := qt_cmp (OpR.wq (r := fun K => rEqM K C (spM K 2 [none, none] c)) (opEqM L.un kd cl hr hk)) os_eqO ha hb (nomark _)
theorem qe_neO (kd : KdE X.K C) (cl : ClM X.prog X.w X.K X.mg X.base k C "__eq__" (spM X.K 2 [none, none] c)) (hr : Room j X.A) (hk : k + 1 ≤ j) (ha : PR X Γ e1 g1) (hb : PR X Γ e2 g2) : PM X Γ (.Compare e1 [.NotEq] [e2] pos) (mOp (neO C c) g1 g2) := qe_cmp (OpR.wq (r := fun K => rNeM K C (spM K 2 [none, none] c)) (opNeM L.un kd cl hr hk)) os_neO ha hb (nomark _)
theorem qt_neO (kd : KdE X.K C) (cl : ClM X.prog X.w X.K X.mg X.base k C "__eq__" (spM X.K 2 [none, none] c)) (hr : Room j X.A) (hk : k + 1 ≤ j) (ha : PR X Γ e1 g1) (hb : PR X Γ e2 g2) : PB X Γ (.Compare e1 [.NotEq] [e2] pos) (fun δ => mBl (mOp (neO C c) g1 g2 δ)) := qt_cmp (OpR.wq (r := fun K => rNeM K C (spM K 2 [none, none] c)) (opNeM L.un kd cl hr hk)) os_neO ha hb (nomark _)
theorem qe_lt_lt (ha : PR X Γ e1 g1) (hb : PR X Γ e2 g2) (hc : PR X Γ e3 g3) (hm : lastMarks [.Lt, .Lt] [e2, e3] = false := by with_unfolding_all rfl) : PM X Γ (.Compare e1 [.Lt, .Lt] [e2, e3] pos) (mChain ltD ltD g1 g2 g3) := qe_chain op_lt op_lt os_lt os_lt ha hb hc hm
theorem qt_lt_lt (ha : PR X Γ e1 g1) (hb : PR X Γ e2 g2) (hc : PR X Γ e3 g3) (hm : lastMarks [.Lt, .Lt] [e2, e3] = false := by with_unfolding_all rfl) : PB X Γ (.Compare e1 [.Lt, .Lt] [e2, e3] pos) (fun δ => mBl (mChain ltD ltD g1 g2 g3 δ)) := qt_chain op_lt op_lt os_lt os_lt ha hb hc hm
theorem qe_lt_le (ha : PR X Γ e1 g1) (hb : PR X Γ e2 g2) (hc : PR X Γ e3 g3) (hm : lastMarks [.Lt, .LtE] [e2, e3] = false := by with_unfolding_all rfl) : PM X Γ (.Compare e1 [.Lt, .LtE] [e2, e3] pos) (mChain ltD leD g1 g2 g3) := qe_chain op_lt op_le os_lt os_le ha hb hc hm
theorem qt_lt_le (ha : PR X Γ e1 g1) (hb : PR X Γ e2 g2) (hc : PR X Γ e3 g3) (hm : lastMarks [.Lt, .LtE] [e2, e3] = false := by with_unfolding_all rfl) : PB X Γ (.Compare e1 [.Lt, .LtE] [e2, e3] pos) (fun δ => mBl (mChain ltD leD g1 g2 g3 δ)) := qt_chain op_lt op_le os_lt os_le ha hb hc hm
theorem qe_le_lt (ha : PR X Γ e1 g1) (hb : PR X Γ e2 g2) (hc : PR X Γ e3 g3) (hm : lastMarks [.LtE, .Lt] [e2, e3] = false := by with_unfolding_all rfl) : PM X Γ (.Compare e1 [.LtE, .Lt] [e2, e3] pos) (mChain leD ltD g1 g2 g3) := qe_chain op_le op_lt os_le os_lt ha hb hc hm
theorem qt_le_lt (ha : PR X Γ e1 g1) (hb : PR X Γ e2 g2) (hc : PR X Γ e3 g3) (hm : lastMarks [.LtE, .Lt] [e2, e3] = false := by with_unfolding_all rfl) : PB X Γ (.Compare e1 [.LtE, .Lt] [e2, e3] pos) (fun δ => mBl (mChain leD ltD g1 g2 g3 δ)) := qt_chain op_le op_lt os_le os_lt ha hb hc hm
theorem qe_le_le (ha : PR X Γ e1 g1) (hb : PR X Γ e2 g2) (hc : PR X Γ e3 g3) (hm : lastMarks [.LtE, .LtE] [e2, e3] = false := by with_unfolding_all rfl) : PM X Γ (.Compare e1 [.LtE, .LtE] [e2, e3] pos) (mChain leD leD g1 g2 g3) := qe_chain op_le op_le os_le os_le ha hb hc hm
theorem qt_le_le (ha : PR X Γ e1 g1) (hb : PR X Γ e2 g2) (hc : PR X Γ e3 g3) (hm : lastMarks [.LtE, .LtE] [e2, e3] = false := by with_unfolding_all rfl) : PB X Γ (.Compare e1 [.LtE, .LtE] [e2, e3] pos) (fun δ => mBl (mChain leD leD g1 g2 g3 δ)) := qt_chain op_le op_le os_le os_le ha hb hc hm
theorem qe_item (ha : PR X Γ e1 g1) (hb : PR X Γ e2 g2) (hs : PlainIx e2 := by exact fun _ _ => rfl) : PM X Γ (.Subscript e1 e2 pos) (mOp ixD g1 g2) := qe_ix (IxR.wq (r := rIx) ix_seq) os_ix ha hb hs
theorem qb_len (hg : Gl X "len") (hm : X.mg "len" = none) (ha : PR X Γ e g) (he : starEach [e] X.env = (false, eval e X.env) :: starEach [] X.env := by rfl) : PM X Γ (.Call (.Name "len" p) [e] [] pos) (mCB lenD g) := qe_cb1 (CallR.wq (r := Pd.rLen) callLen) cs_len hg hm PySem.boot_len ha (by decide) (by decide) he
theorem qb_abs (hg : Gl X "abs") (hm : X.mg "abs" = none) (ha : PR X Γ e g) (he : starEach [e] X.env = (false, eval e X.env) :: starEach [] X.env := by rfl) : PM X Γ (.Call (.Name "abs" p) [e] [] pos) (mCB absD g) := qe_cb1 callAbs cs_abs hg hm (by decide +kernel) ha (by decide) (by decide) he
theorem qb_all (hg : Gl X "all") (hm : X.mg "all" = none) (ha : PR X Γ e g) (he : starEach [e] X.env = (false, eval e X.env) :: starEach [] X.env := by rfl) : PM X Γ (.Call (.Name "all" p) [e] [] pos) (mCB allD g) := qe_cb1 (CallR.wq (r := rAll) (cr_all L.calm)) cs_all hg hm (by decide +kernel) ha (by decide) (by decide) he
theorem qb_any (hg : Gl X "any") (hm : X.mg "any" = none) (ha : PR X Γ e g) (he : starEach [e] X.env = (false, eval e X.env) :: starEach [] X.env := by rfl) : PM X Γ (.Call (.Name "any" p) [e] [] pos) (mCB anyD g) := qe_cb1 (CallR.wq (r := rAny) (cr_any L.calm)) cs_any hg hm (by decide +kernel) ha (by decide) (by decide) he
theorem qb_sum (hg : Gl X "sum") (hm : X.mg "sum" = none) (ha : PR X Γ e g) (he : starEach [e] X.env = (false, eval e X.env) :: starEach [] X.env := by rfl) : PM X Γ (.Call (.Name "sum" p) [e] [] pos) (mCB sumD g) := qe_cb1 (CallR.wq (r := rSum) (cr_sum L.calm)) cs_sum hg hm (by decide +kernel) ha (by decide) (by decide) he
theorem qb_sorted (hg : Gl X "sorted") (hm : X.mg "sorted" = none) (ha : PR X Γ e g) (he : starEach [e] X.env = (false, eval e X.env) :: starEach [] X.env := by rfl) : PM X Γ (.Call (.Name "sorted" p) [e] [] pos) (mCB sortD g) := qe_cb1 (CallR.wq (r := rSortD) (callSortD (by have := L.un; omega))) cs_sort hg hm (by decide +kernel) ha (by decide) (by decide) he
theorem qb_int (hg : Gl X "int") (hm : X.mg "int" = none) (ha : PR X Γ e g) (he : starEach [e] X.env = (false, eval e X.env) :: starEach [] X.env := by rfl) : PM X Γ (.Call (.Name "int" p) [e] [] pos) (mCB intD g) := qe_ct1 callInt cs_int hg hm (by decide +kernel) ha (by decide) (by decide) he
theorem qb_tuple (hg : Gl X "tuple") (hm : X.mg "tuple" = none) (ha : PR X Γ e g) (he : starEach [e] X.env = (false, eval e X.env) :: starEach [] X.env := by rfl) : PM X Γ (.Call (.Name "tuple" p) [e] [] pos) (mCB tupD g) := qe_ct1 (CallR.wq (r := rTupOf) callTupOf) cs_tup hg hm (by decide +kernel) ha (by decide) (by decide) he
theorem qb_list (hg : Gl X "list") (hm : X.mg "list" = none) (ha : PR X Γ e g) (he : starEach [e] X.env = (false, eval e X.env) :: starEach [] X.env := by rfl) : PM X Γ (.Call (.Name "list" p) [e] [] pos) (mCB lstD g) := qe_ct1 (CallR.wq (r := rLstOf) callLstOf) cs_lst hg hm (by decide +kernel) ha (by decide) (by decide) he
theorem qb_str (hg : Gl X "str") (hm : X.mg "str" = none) (ha : PR X Γ e g) (he : starEach [e] X.env = (false, eval e X.env) :: starEach [] X.env := by rfl) : PM X Γ (.Call (.Name "str" p) [e] [] pos) (mCB strD g) := qe_ct1 callStrI cs_str hg hm (by decide +kernel) ha (by decide) (by decide) he
theorem qb_repr (hgd : X.A.guards = some []) (hg : Gl X "repr") (hm : X.mg "repr" = none) (ha : PR X Γ e g) (he : starEach [e] X.env = (false, eval e X.env) :: starEach [] X.env := by rfl) : PM X Γ (.Call (.Name "repr" p) [e] [] pos) (mCB reprD g) := qe_cb1 (CallR.wq (r := Pg.rRepr) (Pg.call_repr hgd (by have := L.un; omega))) cs_repr hg hm (by decide +kernel) ha (by decide) (by decide) he
theorem qb_reprO (hgd : X.A.guards = some []) (cl : ClM X.prog X.w X.K X.mg X.base k C "__repr__" (spM X.K 1 [none] c)) (hr : Room j X.A) (hk : k + 1 ≤ j) (hg : Gl X "repr") (hm : X.mg "repr" = none) (ha : PR X Γ e g) (he : starEach [e] X.env = (false, eval e X.env) :: starEach [] X.env := by rfl) : PM X Γ (.Call (.Name "repr" p) [e] [] pos) (mCB (reprO C c) g) := qe_cb1 (CallR.wq (r := fun K xs H Q => Pg.rRepr K xs H Q ∨ rReprO C (spM K 1 [none] c) xs H Q) (callReprM hgd cl hr hk)) cs_reprO hg hm (by decide +kernel) ha (by decide) (by decide) he
theorem qb_lenO (cl : ClM X.prog X.w X.K X.mg X.base k C "__len__" (spM X.K 1 [none] c)) (hr : Room j X.A) (hk : k + 1 ≤ j) (hg : Gl X "len") (hm : X.mg "len" = none) (ha : PR X Γ e g) (he : starEach [e] X.env = (false, eval e X.env) :: starEach [] X.env := by rfl) : PM X Γ (.Call (.Name "len" p) [e] [] pos) (mCB (lenO C c) g) := qe_cb1 (CallR.wq (r := fun K xs H Q => Pd.rLen K xs H Q ∨ rLenO C (spM K 1 [none] c) xs H Q) (callLenM cl hr hk)) cs_lenO hg hm PySem.boot_len ha (by decide) (by decide) he
theorem qb_boolO (hs : PySem.W.findIn X.K (.ref C) "__bool__" = some none) (hl : PySem.W.findIn X.K (.ref C) "__len__" = some none) (hg : Gl X "bool") (hm : X.mg "bool" = none) (ha : PR X Γ e g) (he : starEach [e] X.env = (false, eval e X.env) :: starEach [] X.env := by rfl) : PM X Γ (.Call (.Name "bool" p) [e] [] pos) (mCB (boolO C) g) := qe_ct1 (callBoolO hs hl) cs_boolO hg hm (by decide +kernel) ha (by decide) (by decide) he
theorem qb_max (hg : Gl X "max") (hm : X.mg "max" = none) (ha : PR X Γ e1 g1) (hb : PR X Γ e2 g2) (he : starEach [e1, e2] X.env = (false, eval e1 X.env) :: starEach [e2] X.env := by rfl) (he2 : starEach [e2] X.env = (false, eval e2 X.env) :: starEach [] X.env := by rfl) (hpl : (backTo pos (starEach [e2] X.env)).any (·.1) = false := by rfl) : PM X Γ (.Call (.Name "max" p) [e1, e2] [] pos) (mOp maxD g1 g2) := qe_cb2 (callMax2 L.calm) cs_max hg hm (by decide +kernel) ha hb (by decide) (by decide) he he2 hpl
theorem qb_min (hg : Gl X "min") (hm : X.mg "min" = none) (ha : PR X Γ e1 g1) (hb : PR X Γ e2 g2) (he : starEach [e1, e2] X.env = (false, eval e1 X.env) :: starEach [e2] X.env := by rfl) (he2 : starEach [e2] X.env = (false, eval e2 X.env) :: starEach [] X.env := by rfl) (hpl : (backTo pos (starEach [e2] X.env)).any (·.1) = false := by rfl) : PM X Γ (.Call (.Name "min" p) [e1, e2] [] pos) (mOp minD g1 g2) := qe_cb2 (callMin2 L.calm) cs_min hg hm (by decide +kernel) ha hb (by decide) (by decide) he he2 hpl
theorem qb_divmod (hg : Gl X "divmod") (hm : X.mg "divmod" = none) (ha : PR X Γ e1 g1) (hb : PR X Γ e2 g2) (he : starEach [e1, e2] X.env = (false, eval e1 X.env) :: starEach [e2] X.env := by rfl) (he2 : starEach [e2] X.env = (false, eval e2 X.env) :: starEach [] X.env := by rfl) (hpl : (backTo pos (starEach [e2] X.env)).any (·.1) = false := by rfl) : PM X Γ (.Call (.Name "divmod" p) [e1, e2] [] pos) (mOp dmD g1 g2) := qe_cb2 callDm cs_dm hg hm (by decide +kernel) ha hb (by decide) (by decide) he he2 hpl
theorem qb_isi {tb : Addr → V → Option Bool} {cs : List Addr} (ht : TbOk X.K tb) (hcs : ClsOk X.K cs) (hg : Gl X "isinstance") (hm : X.mg "isinstance" = none) (ha : PR X Γ e1 g1) (hb : PR X Γ e2 g2) (he : starEach [e1, e2] X.env = (false, eval e1 X.env) :: starEach [e2] X.env := by rfl) (he2 : starEach [e2] X.env = (false, eval e2 X.env) :: starEach [] X.env := by rfl) (hpl : (backTo pos (starEach [e2] X.env)).any (·.1) = false := by rfl) : PM X Γ (.Call (.Name "isinstance" p) [e1, e2] [] pos) (mOp (isiD tb cs) g1 g2) := qe_cb2 (CallR.wq (r := rIsi) call_isi) (cs_isi (L.k ▸ ht) (L.k ▸ hcs)) hg hm (by decide +kernel) ha hb (by decide) (by decide) he he2 hpl
end
def kdB (kd : List (Option Nat)) (q n : Nat) : Bool := kd.zipIdx.all fun p => match p.1 with
  | none => true
  | some j => decide (j = p.2) && decide (p.2 < q) && decide (p.2 < n)
theorem kd_of {kd : List (Option Nat)} {q n : Nat} (h : kdB kd q n = true) : ∀ k j : Nat, kd[k]? = some (some j) → j = k ∧ k < q ∧ k < n := fun k j e => by
  unfold kdB at h
  have := List.all_eq_true.mp h (some j, k) (by rw [List.mem_zipIdx_iff_getElem?]; exact e)
  simp only [Bool.and_eq_true, decide_eq_true_eq] at this
  exact ⟨this.1.1, this.1.2, this.2⟩
/-- the law's promise, met by its mirror -/
theorem law_end {K : PySem.W.Frag} {H : Hp} {a : Addr} {ns : List Int} {c : List Sv → Res Sv} (hc : c [.dat (.scr ns)] = .ok (.dat (.bl true)) []) (hS : SqL K H a (ns.map V.int)) : spM K 1 [none] c [.ref a] H (fun v _ => v = .bl true) (fun _ _ _ => False) :=
  spM_data (n := 1) (ds := [.scr ns]) (Same.refl H) (.cons (.scr hS) .nil) rfl hc fun v G' H' _ _ r => by cases r; rfl
end Qm

set_option Elab.async false
set_option linter.all false
set_option maxRecDepth 100000
set_option maxHeartbeats 4000000
namespace Qs
open PySem PySem.Spec PyProof.Rows L2
/-! set(t), t a tuple of tuples of ints -/
section
variable {P : Program} {w : World} {A : Around} {E : Value → Shared → Prop} {s : Shared}
abbrev sObj (w : World) : Obj := { cls := .type "set", dict := none, data := .set #[] 0 (.fresh 0 0 (!w.params.followText "set-order")) }
theorem fresh_none {b : Addr} (hb : s.heap.objs.size ≤ b) : s.heap.get? b = none := by
  cases q : s.heap.get? b with
  | none => rfl
  | some o => exact absurd (Nat.lt_of_lt_of_le (Heap.lt_size q) hb) (Nat.lt_irrefl _)
theorem set_of_tuple {l : Addr} {xs : Array Value} {Q : Value → Shared → Prop} (hh : A.handled = none) (hl : s.heap.IsTuple l xs) (Z : Heap → Prop)
    (loop : ∀ R : Result → Shared → Prop, (∀ s' : Shared, s'.gens = s.gens → s'.drawn = s.drawn → s'.os = s.os → (∀ b o, s.heap.get? b = some o → s'.heap.get? b = some o) → Z s'.heap → R (.ok (.ret .none)) s') →
      codeAny (model P w) A.in1.in1 (.builtin "set.update.loop" ⟨[.ref s.heap.objs.size, .ref (s.heap.objs.size + 1)], []⟩) R { s with heap := (s.heap.push (sObj w)).push { cls := .type "tuple_iterator", data := .fields #[.ref l, .int 0 0] } })
    (h : ∀ (h' : Heap) (tk : Nat), Z h' → (∀ b o, s.heap.get? b = some o → h'.get? b = some o) → Q (.ref s.heap.objs.size) { s with heap := h', toks := tk }) : wpAny (model P w) A (call (.type "set") [.ref l]) Q E s := by
  obtain ⟨c0, tl0, m0⟩ := F.called_set.mro
  have m1 := F.called_set.made
  have m2 := F.called_set.sub
  refine wpAny_call (codeAny_of_tree ?_)
  show wpAny _ _ (callAny (.type "set") _) _ _ _
  refine wpAny_pure ⟨Code.quiet_builtin _ (by decide +kernel), codeAny_builtin F.entry_type_call ?_⟩
  rw [Around.under_plain (weight_type_call_type "set" [.ref l] []) rfl]
  have m3 := F.called_set.notType
  have m4 := F.called_set.canCreate
  have m5 := F.typeCall_set_1 (.ref l)
  repeat (any_goals (first | assumption | wp_step))
  refine codeAny_mono (code_set_led1 (.ref l) (E := E) (Q₁ := fun z t => z = .ref s.heap.objs.size ∧ t = { s with heap := s.heap.push (sObj w) }) ⟨rfl, rfl⟩) fun r1 t1 hr1 => ?_
  cases r1 with
  | error e => exact hr1
  | ok f1 =>
    cases f1 with
    | ret z =>
      obtain ⟨rfl, rfl⟩ := hr1
      have g0 : (s.heap.push (sObj w)).get? s.heap.objs.size = some (sObj w) := Heap.get?_push_size _ rfl
      have g1 : Shared.TypeIs { s with heap := s.heap.push (sObj w) } (.ref s.heap.objs.size) "set" := ⟨_, g0, rfl⟩
      have m6 := F.called_set.init.lookup
      have m7 := F.called_set.init.bind (.ref s.heap.objs.size)
      repeat (any_goals (first | assumption | wp_step))
      refine codeAny_mono (codeAny_call_builtin (R := wants (fun y t => y = .none ∧ ∃ h' tk, t = { s with heap := h', toks := tk } ∧ Z h' ∧ (∀ b o, s.heap.get? b = some o → h'.get? b = some o)) E) F.called_set.init.plain F.entry_set_init (check_set_init_1 g1 ?_)) fun r2 t2 hr2 => ?_
      · obtain ⟨⟨oc, od, ox, os⟩, ho, hc, nl, hd⟩ := hl
        simp only at hc hd
        subst hc; subst hd
        have g2 : (s.heap.push (sObj w)).get? l = some { cls := .type "tuple", dict := od, data := .seq xs nl, slots := os } := Heap.get?_push_of_some _ ho
        have m8 := F.sub_tuple_set
        have m9 := F.sub_tuple_frozenset
        have ma : (Value.type "tuple" == Value.type "dict") = false := by decide
        have g3 : (s.heap.push (sObj w)).IsTuple l xs := ⟨_, g2, rfl, nl, rfl⟩
        unfold Builtin.«set.__init__» noKeywords Builtin.Frozenset.updateFrom
        generalize hpi : pyIter = PI
        wp_walk
        subst hpi
        refine wpAny_pyIter_tuple g3 (wpAny_bind (wpAny_runValue ?_))
        have sz : (s.heap.push (sObj w)).objs.size = s.heap.objs.size + 1 := Heap.size_push ..
        show codeAny _ _ (.builtin "set.update.loop" ⟨[.ref s.heap.objs.size, .ref (s.heap.push (sObj w)).objs.size], []⟩) _ _
        rw [sz]
        refine loop _ fun t ht1 ht2 ht3 hk hz => ?_
        obtain ⟨h', ga, da, tka, oa⟩ := t
        have ht1 : ga = s.gens := ht1
        have ht2 : da = s.drawn := ht2
        have ht3 : oa = s.os := ht3
        subst ht1; subst ht2; subst ht3
        show wpAny _ _ _ _ _ _
        refine wpAny_pure ?_
        show wpAny _ _ (ret Value.none) _ _ _
        exact wpAny_pure ⟨rfl, h', tka, rfl, hz, hk⟩
      · cases r2 with
        | error e => exact hr2
        | ok f2 =>
          cases f2 with
          | ret y =>
            obtain ⟨rfl, h', tka, rfl, hz, hk⟩ := hr2
            repeat (any_goals (first | assumption | wp_step))
            exact h _ _ hz hk
          | _ => exact hr2.elim
    | _ => exact hr1.elim
theorem set_of_tups {l : Addr} {xs : Array Value} (ks : List (Addr × List Int)) {Q : Value → Shared → Prop} (hh : A.handled = none) (hl : s.heap.IsTuple l xs) (hx : xs.toList = ks.map fun p => Value.ref p.1) (hk : ∀ p ∈ ks, IsT P w s.heap p.2 p.1) (hf : ks.length < 64) (hu : A.units + 3 < cLine)
    (h : ∀ (h' : Heap) (tk : Nat) M es ep t, SetTR P w h' s.heap.objs.size M es ep t → Got ks ks.length M → (∀ b o, s.heap.get? b = some o → h'.get? b = some o) → Q (.ref s.heap.objs.size) { s with heap := h', toks := tk }) : wpAny (model P w) A (call (.type "set") [.ref l]) Q E s := by
  have hz : xs.size = ks.length := by
    have := congrArg List.length hx
    rwa [Array.length_toList, List.length_map] at this
  refine set_of_tuple hh hl (fun h' => ∃ M es ep t, SetTR P w h' s.heap.objs.size M es ep t ∧ Got ks ks.length M) (fun R hR => ?_) fun h' tk ⟨M, es, ep, t, q1, q2⟩ q3 => h h' tk M es ep t q1 q2 q3
  have hll : l < s.heap.objs.size := by obtain ⟨o, ho, _⟩ := hl; exact Heap.lt_size ho
  have hA : A.in1.in1.in1.handled = none := by simp [hh]
  have sz : (s.heap.push (sObj w)).objs.size = s.heap.objs.size + 1 := Heap.size_push ..
  have ne : l ≠ s.heap.objs.size + 1 := Nat.ne_of_lt (Nat.lt_succ_of_lt hll)
  have W := (Walks.tuple (prog := P) (w := w) hA (s.heap.objs.size + 1) l ne xs).toS
  have g0 : (s.heap.push (sObj w)).get? s.heap.objs.size = some (sObj w) := Heap.get?_push_size _ rfl
  have g1 : (s.heap.push (sObj w)).IsTuple l xs := by
    obtain ⟨o, ho, hc, n, hd⟩ := hl
    exact ⟨o, Heap.get?_push_of_some _ ho, hc, n, hd⟩
  have hI : ((s.heap.push (sObj w)).push { cls := .type "tuple_iterator", data := .fields #[.ref l, .int 0 0] }).get? (s.heap.objs.size + 1) = some { cls := .type "tuple_iterator", data := .fields #[.ref l, .int 0 0] } := by
    have := Heap.get?_push_size (s.heap.push (sObj w)) (o := ({ cls := .type "tuple_iterator", data := .fields #[.ref l, .int 0 0] } : Obj)) rfl
    rwa [sz] at this
  refine set_update_tups W s.heap.objs.size ?_ ks hz hf (fun i v hv => ?_) s.heap hk (fresh_none (Nat.le_refl _)) (fun b hb => fresh_none ?_) hu (xs.size - 0) 0 _ (by omega) (Nat.zero_le _) ?_ (fun b o e => Heap.get?_push_of_some _ (Heap.get?_push_of_some _ e)) ⟨[], #[], 0, _, setTR_fresh (Heap.get?_push_of_some _ g0), Got.zero ks⟩ fun s' M es ep t hm hS' g' hkp => ?_
  · simp only [List.mem_cons, List.not_mem_nil, or_false, not_or]
    exact ⟨Nat.ne_of_lt (Nat.lt_succ_self _), Nat.ne_of_gt hll⟩
  · have q : xs.toList[i]? = some v := by rw [Array.getElem?_toList]; exact hv
    rw [hx, List.getElem?_map] at q
    cases e : ks[i]? with
    | none => rw [e] at q; cases q
    | some p => rw [e] at q; exact ⟨p, rfl, (Option.some.inj q).symm⟩
  · rw [List.mem_singleton.mp hb]
    exact Nat.le_succ _
  · exact ⟨⟨_, hI, rfl, rfl⟩, g1.push _⟩
  · refine hR s' hm.gens hm.drawn hm.os hkp ⟨M, es, ep, t, hS', ?_⟩
    rw [← hz]
    exact g'
end
end Qs

set_option Elab.async false
set_option linter.all false
set_option maxRecDepth 100000
set_option maxHeartbeats 4000000
namespace Qm
open PySem PySem.Spec PyProof.Rows L2 Pd

/-! ### how many unlike ones -/
def ddp {α : Type} [DecidableEq α] : List α → List α
  | [] => []
  | x :: l => if x ∈ ddp l then ddp l else x :: ddp l
section
variable {α : Type} [DecidableEq α]
theorem mem_ddp {x : α} : ∀ {l : List α}, x ∈ ddp l ↔ x ∈ l
  | [] => Iff.rfl
  | y :: l => by
    unfold ddp
    split
    · rename_i h
      rw [mem_ddp, List.mem_cons]
      exact ⟨.inr, fun z => z.elim (fun e => e ▸ mem_ddp.mp h) id⟩
    · rw [List.mem_cons, List.mem_cons, mem_ddp]
theorem nodup_ddp : ∀ l : List α, (ddp l).Nodup
  | [] => .nil
  | y :: l => by
    unfold ddp
    split
    · exact nodup_ddp l
    · exact List.nodup_cons.mpr ⟨by assumption, nodup_ddp l⟩
theorem ddp_of_nodup : ∀ {l : List α}, l.Nodup → ddp l = l
  | [], _ => rfl
  | y :: l, h => by
    have h := List.nodup_cons.mp h
    unfold ddp
    rw [ddp_of_nodup h.2, if_neg h.1]
theorem ddp_len : ∀ l : List α, (ddp l).length ≤ l.length
  | [] => Nat.le_refl _
  | y :: l => by
    have := ddp_len l
    unfold ddp
    split
    · rw [List.length_cons]; omega
    · rw [List.length_cons, List.length_cons]; omega
theorem ddp_len_iff : ∀ {l : List α}, (ddp l).length = l.length ↔ l.Nodup
  | [] => by simp [ddp]
  | y :: l => by
    have h0 := ddp_len l
    rw [List.nodup_cons]
    unfold ddp
    split
    · rename_i h
      rw [List.length_cons]
      exact ⟨fun e => by omega, fun e => absurd (mem_ddp.mp h) e.1⟩
    · rename_i h
      rw [List.length_cons, List.length_cons, Nat.add_right_cancel_iff, ddp_len_iff]
      exact ⟨fun e => ⟨fun z => h (mem_ddp.mpr z), e⟩, And.right⟩
theorem len_of_same : ∀ {l m : List α}, l.Nodup → m.Nodup → (∀ x, x ∈ l ↔ x ∈ m) → l.length = m.length := fun {l m} h1 h2 h => by
  have : l.Perm m := (List.perm_ext_iff_of_nodup h1 h2).mpr h
  exact this.length_eq
end
def intss : List Dt → Option (List (List Int))
  | [] => some []
  | .tup xs :: ds => match intsOf xs, intss ds with
    | some ns, some kss => some (ns :: kss)
    | _, _ => none
  | _ :: _ => none
def setLenD : Dt → Option Dt
  | .tup ds => match intsOf ds with
    | some ns => if ns.length < 64 then some (.int ((ddp ns).length : Nat)) else none
    | none => match intss ds with
      | some kss => if kss.length < 64 then some (.int ((ddp kss).length : Nat)) else none
      | none => none
  | _ => none
section
variable {X : Cx}
def tLenSetT (K : PySem.W.Frag) (ta : TE) : TE := fun σ H Q => ta σ H fun x H1 => (∃ (l : Addr) (ns : List Int), x = V.ref l ∧ SqT K H1 l (ns.map V.int) ∧ ns.length < 64 ∧ Q (.int ((ddp ns).length : Nat)) H1) ∨
  ∃ (l : Addr) (ks : List (Addr × List Int)), x = V.ref l ∧ SqT K H1 l (ks.map fun p => V.ref p.1) ∧ (∀ p ∈ ks, SqT K H1 p.1 (p.2.map V.int)) ∧ ks.length < 64 ∧ Q (.int ((ddp (ks.map (·.2))).length : Nat)) H1
theorem pe_lenSetT {a : Expr} {ta : TE} {p p2 q pos : Pos} (hc : X.calm = true) (hu : X.A.units + 65 < cLine) (hg : Gl X "len") (hm : X.mg "len" = none) (hg2 : Gl X "set") (hm2 : X.mg "set" = none) (ha : PE X a ta)
    (na : starEach [a] X.env = (false, eval a X.env) :: starEach [] X.env := by rfl) : PE X (.Call (.Name "len" p) [.Call (.Name "set" p2) [a] [] q] [] pos) (tLenSetT X.K ta) := by
  refine ⟨fun pins s σ H Q I h => Call_ (ld_blt I hg hm PySem.boot_len (PyProof.Rows.callWith_builtin1 (PyProof.Rows.args_cons ?_ rfl) rfl rfl))⟩
  refine Call_ (ld_blt I hg2 hm2 PyProof.Rows.boot_set (PyProof.Rows.callWith_type1 (PyProof.Rows.args_cons (thn (ha.run pins s σ H _ I h) fun v s1 ⟨x, H1, I1, r1, q1⟩ => PyProof.Rows.args_nil ?_) na) na rfl))
  rcases q1 with ⟨l, ns, rfl, hq, hl, q1⟩ | ⟨l, ks, rfl, hq, hk, hl, q1⟩
  · cases r1
    obtain ⟨its, rv, pt, hz⟩ := I1.tuple hq
    refine call_set_tupI ns (I1.ok.hd hc) (show s1.heap.IsTuple l its.toArray from pt) (ints_of_vals rv) (by unfold scanBound; omega) fun h' tk c R1 hcn kp => PyProof.Rows.args_nil ?_
    obtain ⟨o, es, ep, t, ho, hex, hd, g, nd, hm', hb, hf, hn, hr, hl2⟩ := R1
    have I2 : Inv X pins σ H1 { s1 with heap := h', toks := tk } := I1.kept kp
    have e : es.size = (ddp ns).length := by
      have := len_of_same nd (nodup_ddp ns) fun j => by rw [← hm' j, decide_eq_true_eq, mem_ddp]
      rwa [List.length_map, Array.length_toList] at this
    have hs := ddp_len ns
    exact call_len_set ho hex hd hf (by rw [e]; omega) ⟨.int ((ddp ns).length : Nat), H1, I2.tok _, ⟨_, by rw [e]⟩, q1⟩
  · cases r1
    obtain ⟨its, rv, pt, hz⟩ := I1.tuple hq
    refine Qs.set_of_tups (P := X.prog) (w := X.w) ks (I1.ok.hd hc) (show s1.heap.IsTuple l its.toArray from pt) (by simpa using refs_of_vals rv) (fun p hp => I1.isT (hk p hp)) hl (by omega) fun h' tk M es ep t R g kp => PyProof.Rows.args_nil ?_
    obtain ⟨o, ho, hex, hd⟩ := R.ob
    have I2 : Inv X pins σ H1 { s1 with heap := h', toks := tk } := I1.kept kp
    have e : es.size = (ddp (ks.map (·.2))).length := by
      have h1 : es.size = M.length := by
        have := congrArg List.length R.rows
        rwa [Array.length_toList, rowsOf, List.length_map] at this
      have h2 := len_of_same R.nd (nodup_ddp (ks.map (·.2))) fun j => by
        rw [mem_ddp]
        constructor
        · intro z
          obtain ⟨p, hp, rfl⟩ := List.mem_map.mp z
          exact List.mem_map_of_mem (List.mem_of_mem_take (g.sub p hp))
        · intro z
          obtain ⟨p, hp, rfl⟩ := List.mem_map.mp z
          exact g.all p (by rw [List.take_length]; exact hp)
      rw [List.length_map] at h2
      omega
    have hs := ddp_len (ks.map (·.2))
    rw [List.length_map] at hs
    exact call_len_set ho hex hd (SetTR.fits (s := { s1 with heap := h' }) R) (by rw [e]; omega) ⟨.int ((ddp (ks.map (·.2))).length : Nat), H1, I2.tok _, ⟨_, by rw [e]⟩, q1⟩
end
section
variable {K : PySem.W.Frag} {G : Hp}
theorem intss_dr : ∀ {ds : List Dt} {kss : List (List Int)} {vs : List V}, intss ds = some kss → DrAll K G vs ds → ∃ ks : List (Addr × List Int), vs = ks.map (fun p => V.ref p.1) ∧ ks.map (·.2) = kss ∧ ∀ p ∈ ks, SqT K G p.1 (p.2.map V.int)
  | [], _, _, h, .nil => by cases h; exact ⟨[], rfl, rfl, fun p hp => nomatch hp⟩
  | d :: ds, kss, _, h, .cons r t => by
    cases d with
    | tup xs =>
      unfold intss at h
      cases q1 : intsOf xs with
      | none => rw [q1] at h; cases h
      | some ns =>
        cases q2 : intss ds with
        | none => rw [q1, q2] at h; cases h
        | some kss' =>
          rw [q1, q2] at h
          cases h
          obtain ⟨ks, e1, e2, e3⟩ := intss_dr q2 t
          have := intsOf_some q1
          subst this
          cases r with
          | @tup a us _ h1 h2 =>
            have := drall_int h2
            subst this
            refine ⟨(a, ns) :: ks, by rw [e1]; rfl, by rw [← e2]; rfl, fun p hp => ?_⟩
            rcases List.mem_cons.mp hp with rfl | hp
            · exact h1
            · exact e3 p hp
    | _ => cases h
end
section
variable {X : Cx} {Γ : Cn} {F : Fm} [L : Lk X Γ]
variable {e e1 e2 e3 tg o : Expr} {es : List Expr} {pos p apos : Pos} {m m1 m2 m3 : M Dt} {x : Str} {i j k l n : Nat}
theorem qe_setLen {p2 q2 : Pos} (hg : Gl X "len") (hm : X.mg "len" = none) (hg2 : Gl X "set") (hm2 : X.mg "set" = none) (h : PM X Γ e m) (na : starEach [e] X.env = (false, eval e X.env) :: starEach [] X.env := by rfl) :
    PM X Γ (.Call (.Name "len" p) [.Call (.Name "set" p2) [e] [] q2] [] pos) (mUn setLenD m) := by
  obtain ⟨te, h1, h2⟩ := h
  refine ⟨_, pe_lenSetT L.calm L.un hg hm hg2 hm2 h1 na, fun F δ G H σ Q at_ k => h2 F δ G H σ _ at_ ((OkR.bnd k).imp fun d δ1 G1 s1 k1 v H1 a1 r1 => ?_)⟩
  obtain ⟨z, ez, k2⟩ := OkR.opt k1
  rw [L.k]
  unfold setLenD at ez
  split at ez
  · rename_i ds
    split at ez
    · rename_i ns hns
      split at ez
      · rename_i hl
        cases ez
        have := intsOf_some hns
        subst this
        cases r1 with
        | @tup a us _ q1 q2 =>
          have := drall_int q2
          subst this
          exact .inl ⟨a, ns, rfl, sqT_mono a1.sub q1, hl, k2 G1 (Same.refl _) _ H1 a1 (.int _)⟩
      · cases ez
    · split at ez
      · rename_i kss hk
        split at ez
        · rename_i hl
          cases ez
          cases r1 with
          | @tup a us _ q1 q2 =>
            obtain ⟨ks, e1, e2, e3⟩ := intss_dr hk q2
            subst e1
            subst e2
            rw [List.length_map] at hl
            exact .inr ⟨a, ks, rfl, sqT_mono a1.sub q1, fun p hp => sqT_mono a1.sub (e3 p hp), hl, k2 G1 (Same.refl _) _ H1 a1 (.int _)⟩
        · cases ez
      · cases ez
  · cases ez
theorem _root_.L2.PE.or {t1 t2 : TE} (h1 : PE X e t1) (h2 : PE X e t2) : PE X e fun σ H Q => t1 σ H Q ∨ t2 σ H Q := ⟨fun pins s σ H Q I h => h.elim (h1.run pins s σ H Q I) (h2.run pins s σ H Q I)⟩
def revD : Dt → Option Dt
  | .tup ds => some (.tup ds.reverse)
  | .lst ds => some (.lst ds.reverse)
  | _ => none
theorem qe_rev {kk : Nat} {p1 p2 p3 : Pos} (h : PM X Γ e m) : PM X Γ (.Subscript e (.Slice none none (some (.UnaryOp .USub (.Constant (.int 1) kk p1) p2)) p3) pos) (mUn revD m) := by
  obtain ⟨te, h1, h2⟩ := h
  refine ⟨_, PE.or (pe_revT L.k h1) (pe_revL h1), fun F δ G H σ Q a k => ?_⟩
  cases hm : m δ with
  | bad => unfold mUn at k; rw [hm] at k; exact k.elim
  | exc x δ' =>
    unfold mUn at k
    rw [hm] at k
    refine .inl (h2 F δ G H σ _ a ?_)
    rw [hm]
    exact k
  | ok d δ' =>
    have k' := k
    unfold mUn at k'
    rw [hm, bnd_ok] at k'
    obtain ⟨z, ez, k2⟩ := OkR.opt k'
    cases d with
    | tup ds =>
      cases ez
      refine .inl (h2 F δ G H σ _ a ?_)
      rw [hm]
      intro G1 s1 v H1 a1 r1
      cases r1 with
      | @tup b us _ q1 q2 =>
        have g := good0 (K := Γ.K) a1.sub
        exact ⟨b, us, rfl, sqT_mono a1.sub q1, fun c hc => k2 (upd G1 c (.tup us.reverse)) (s1.trans (same_new (g.gn hc))) _ _ (a1.step (Fr.new g hc) (g.new hc).sub) (.tup (.inl (.inl upd_same)) (q2.reverse.mono (same_new (g.gn hc))))⟩
    | lst ds =>
      cases ez
      refine .inr (h2 F δ G H σ _ a ?_)
      rw [hm]
      intro G1 s1 v H1 a1 r1
      cases r1 with
      | @lst b us _ q1 q2 =>
        have g := good0 (K := Γ.K) a1.sub
        exact ⟨b, us, rfl, SqL.of (a1.sub _ _ q1), fun c hc => k2 (upd G1 c (.lst us.reverse)) (s1.trans (same_new (g.gn hc))) _ _ (a1.step (Fr.new g hc) (g.new hc).sub) (.lst upd_same (q2.reverse.mono (same_new (g.gn hc))))⟩
    | _ => cases ez
/-! ### a def that a name holds -/
def mCallA (i : Nat) (S : Addr → Option (List Sv → Res Sv)) (ags : List Ag) : M Sv := fun δ => match δ[i]? with
  | some (.dat (.raw (.ref f))) => (match S f with
    | some c => mCall c ags δ
    | none => .bad)
  | _ => .bad
theorem qo_callA {ags : List Ag} {kd : List (Option Nat)} {S : Addr → Option (List Sv → Res Sv)} (A : ∀ f c, S f = some c → Held X.prog X.w X.K X.mg X.base k f (spM X.K n kd c)) (hr : Room j X.A) (hkj : k ≤ j) (hN : X.N[i]? = some x) (hv : Vis X.env.scope x) (ha : PAg X Γ (e :: es) ags) (hl : ags.length = n := by rfl) (hu : ((ags.map Ag.kind).filterMap id).Nodup := by simp [Ag.kind]) (hk : kd = kdOf 0 (ags.map Ag.kind) := by rfl)
    (hdb : (x == ("__debug__" : Str)) = false := by decide) (hcd : (x == ("__classdict__" : Str)) = false := by decide) (he : starEach (e :: es) X.env = (false, eval e X.env) :: starEach es X.env := by rfl) (hpl : (backTo pos (starEach es X.env)).any (·.1) = false := by rfl) : PV X Γ (.Call (.Name x p) (e :: es) [] pos) (mCallA i S ags) := by
  obtain ⟨ta, h1, h2⟩ := ha
  refine ⟨_, pe_callA (S := fun f => (S f).map fun c => spM X.K n kd c) (fun f sp hf => ?_) (hr.mono hkj) hN hv h1 hdb hcd he hpl, fun F δ G H σ Q a k => ?_⟩
  · cases q : S f with
    | none => rw [q] at hf; cases hf
    | some c => rw [q] at hf; cases hf; exact A f c q
  · unfold mCallA at k
    split at k
    · rename_i f hs
      split at k
      · rename_i c hc
        obtain ⟨v, q1, q2⟩ := a.dat hs
        cases q2
        refine ⟨f, spM X.K n kd c, q1, by show (S f).map _ = _; rw [hc]; rfl, ?_⟩
        have := so_call (c := c) (E := fun _ _ _ => False) hl hu hk h2 F δ G H σ Q a k
        have e0 : (fun (vs : List V) (H1 : Hp) => spM Γ.K n kd c (vs ++ []) H1 Q fun _ _ _ => False) = fun vs H1 => spM Γ.K n kd c vs H1 Q fun _ _ _ => False := by
          funext vs H1
          rw [List.append_nil]
        unfold tCall at this
        rw [e0] at this
        rw [L.k]
        exact this
      · exact k.elim
    · exact k.elim
/-! ### a, b, c = e1, e2, e3 (data) -/
def mPar3 (i j l : Nat) (a b c : M Dt) : M Fl := fun δ => (a δ).bnd fun x δ1 => (b δ1).bnd fun y δ2 => (c δ2).bnd fun z δ3 => .ok .nx (((δ3.set i (.dat x)).set j (.dat y)).set l (.dat z))
theorem qs_par3 {xi xj xl : Str} {px py pz pt pt2 : Pos} {kt k2 : Nat} (hN : X.N.Nodup) (hxi : X.N[i]? = some xi) (hxj : X.N[j]? = some xj) (hxl : X.N[l]? = some xl) (hij : i ≠ j) (hil : i ≠ l) (hjl : j ≠ l) (hx : X.env.scope.names.lookup xi = some .local) (hy : X.env.scope.names.lookup xj = some .local) (hz : X.env.scope.names.lookup xl = some .local)
    (hi : i ∉ Γ.ps) (hj : j ∉ Γ.ps) (hl : l ∉ Γ.ps) (ha : PM X Γ e1 m1) (hb : PM X Γ e2 m2) (hc : PM X Γ e3 m3) (hw : swappedStores [.Tuple [.Name xi px, .Name xj py, .Name xl pz] kt pt] (.Tuple [e1, e2, e3] k2 pt2) X.env = pure (some [xi, xj, xl]))
    (hs : starEach [e1, e2, e3] X.env = (false, eval e1 X.env) :: starEach [e2, e3] X.env := by rfl) (hs2 : starEach [e2, e3] X.env = (false, eval e2 X.env) :: starEach [e3] X.env := by rfl) (hs3 : starEach [e3] X.env = (false, eval e3 X.env) :: starEach [] X.env := by rfl)
    (hsw : swapsWithSole [.Tuple [.Name xi px, .Name xj py, .Name xl pz] kt pt] (.Tuple [e1, e2, e3] k2 pt2) pos.line X.env = pure false := by rfl) : PQ X Γ (.Assign [.Tuple [.Name xi px, .Name xj py, .Name xl pz] kt pt] (.Tuple [e1, e2, e3] k2 pt2) pos) (mPar3 i j l m1 m2 m3) := by
  obtain ⟨_, h1, h2⟩ := ha
  obtain ⟨_, h3, h4⟩ := hb
  obtain ⟨_, h5, h6⟩ := hc
  refine ⟨_, ps_par3 L.calm hN hxi hxj hxl hij hil hjl hx hy hz (pa_cons h1 (pa_cons h3 (pa_cons h5 pa_nil hs3) hs2) hs) hw hsw, fun F δ G H σ D a k => h2 F δ G H σ _ a ((OkR.bnd k).imp fun d δ1 G1 s1 k1 v H1 a1 r1 => h4 F δ1 G1 H1 σ _ a1 ((OkR.bnd k1).imp fun d2 δ2 G2 s2 k2 v2 H2 a2 r2 => h6 F δ2 G2 H2 σ _ a2 ((OkR.bnd k2).imp fun d3 δ3 G3 s3 k3 v3 H3 a3 r3 => ?_)))⟩
  exact ⟨v, v2, v3, rfl, k3 G3 (Same.refl _) _ H3 (((a3.datSet ((r1.mono s2).mono s3) hi).datSet (r2.mono s3) hj).datSet r3 hl)⟩
end
section
variable {P : Program} {w : World} {K : PySem.W.Frag} {mg : Str → Option Value} {base : Heap} {k q : Nat} {x qual : Str} {params : Arguments} {body : List Stmt} {scope : Scope} {dvs : List V} {kws : List (Str × V)} {f : Addr} {fd : FuncData} {N ps : List Str} {kd : List (Option Nat)} {m : M Fl}
theorem fnOD (Fn : FunD K x qual params body scope dvs kws f fd) (S : FnScope N ps scope) (hN : ps.length ≤ N.length) (hkd : ∀ k j : Nat, kd[k]? = some (some j) → j = k ∧ k < q ∧ k < ps.length)
    (hb : ∀ (cdv : Value) (A : Around) (outer : List Env) (s : Shared) (H : Hp) (E : XK) (Γ : Cn), Room k (A.deeper (envOfC qual scope s.heap.objs.size f cdv)) → Γ.K = K → Γ.ps = kd.filterMap id → Γ.n = N.length →
      Lk (cxOf L2.CX0 P w K mg base N qual scope f cdv A outer s H E).nox Γ → PQs (cxOf L2.CX0 P w K mg base N qual scope f cdv A outer s H E).nox Γ body m) :
    FnOk P w K mg base L2.CX0 (k + 1) f fd ps (spM K ps.length kd (fnOf N.length ps.length q m)) :=
  Fn.ok S (fun vs H Q E h => h.1) fun cdv A outer s H vs Q E hr h => by
    obtain ⟨t, h1, h2⟩ := body_run (X := (cxOf L2.CX0 P w K mg base N qual scope f cdv A outer s H E).nox) rfl rfl hr.units65 hN hkd (fun Γ h1 h2 h3 h4 => hb cdv A outer s H E Γ hr h1 h2 h3 h4) h
    exact ⟨t, h1.nox, h2⟩
end
end Qm

set_option Elab.async false
set_option linter.all false
set_option maxRecDepth 100000
set_option maxHeartbeats 4000000
namespace Qm
open PySem PySem.Spec PyProof.Rows L2 Pd
/-- an empty tuple of the text -/
def EmptyT (K : PySem.W.Frag) (T : Addr) : Prop := ∀ H : Hp, SqT K H T []
theorem EmptyT.dr {K : PySem.W.Frag} {T : Addr} (h : EmptyT K T) (G : Hp) : Dr K G (.ref T) (.tup []) := .tup (h G) .nil
/-- isinstance among the text's own classes: each one with itself -/
def tbOf (cs : List Addr) : Addr → V → Option Bool := fun C c => match c with
  | .ref D => if D = C ∧ C ∈ cs then some true else none
  | _ => none
theorem tbOf_ok {K : PySem.W.Frag} {cs : List Addr} (h : ClsOk K cs) : TbOk K (tbOf cs) := fun C c b e => by
  cases c with
  | ref D =>
    simp only [tbOf] at e
    split at e
    · rename_i q
      obtain ⟨rfl, q2⟩ := q
      cases e
      refine ⟨h _ q2, .ref D, .own D, ?_⟩
      unfold PySem.W.kitOne
      rw [if_pos (by simp)]
    · cases e
  | _ => cases e
/-- what a law's own def is to do -/
def spL (K : PySem.W.Frag) : Sp := fun vs H Q _ => ∃ (a : Addr) (ns : List Int), vs = [.ref a] ∧ ns.length ≤ 63 ∧ SqL K H a (ns.map V.int) ∧ ∀ H', Q (.bl true) H'
theorem spL_of {K : PySem.W.Frag} {c : List Sv → Res Sv} (h : ∀ ns : List Int, ns.length ≤ 63 → c [.dat (.scr ns)] = .ok (.dat (.bl true)) []) (vs : List V) (H : Hp) (Q : VK) (E : XK) (p : spL K vs H Q E) : spM K 1 [none] c vs H Q E := by
  obtain ⟨a, ns, rfl, hl, hS, hq⟩ := p
  exact spM_data (n := 1) (ds := [.scr ns]) (Same.refl H) (.cons (.scr hS) .nil) rfl (h ns hl) fun v G' H' _ _ r => by cases r; exact hq _
theorem law_pre {K : PySem.W.Frag} {H : Hp} {a : Addr} {ns : List Int} (hl : ns.length ≤ 63) (hS : SqL K H a (ns.map V.int)) : spL K [.ref a] H (fun v _ => v = .bl true) (fun _ _ _ => False) :=
  ⟨a, ns, rfl, hl, hS, fun _ => rfl⟩
theorem _root_.Pg.FnG.imp {P : Program} {w : World} {K : PySem.W.Frag} {mg : Str → Option Value} {base : Heap} {k : Nat} {f : Addr} {fd : FuncData} {ps : List Str} {sp sp' : Sp} (F : Pg.FnG P w K mg base k f fd ps sp)
    (h : ∀ vs H Q E, sp' vs H Q E → sp vs H Q E) : Pg.FnG P w K mg base k f fd ps sp' :=
  ⟨fun vs H Q E p => F.ln vs H Q E (h vs H Q E p), fun A o s H args us vs Q E hr hg e hb hv hs => F.go A o s H args us vs Q E hr hg e hb hv (h vs H Q E hs)⟩
theorem kc_of {K : PySem.W.Frag} {C : Addr} {cd : ClassData} (h : PySem.W.clsIn K C = some cd) (h2 : PySem.W.typeIn K (.ref C) = some (.type "type")) : ((PySem.W.clsIn K C).isSome && PySem.W.typeIn K (.ref C) == some (.type "type")) = true := by
  rw [h, h2]
  rfl
/-- two defs of unlike names lie apart -/
def nameOf (o : Obj) : Option Str := match o.data with
  | .func d => some d.name
  | _ => none
theorem apart {K : PySem.W.Frag} {f g : Addr} {o1 o2 : Obj} (h1 : K.lookup f = some o1) (h2 : K.lookup g = some o2) (h : nameOf o1 ≠ nameOf o2) : f ≠ g := fun e => by
  subst e
  rw [h1] at h2
  cases h2
  exact h rfl
end Qm

set_option Elab.async false
set_option linter.all false
set_option maxRecDepth 100000
set_option maxHeartbeats 4000000
namespace Qm
open PySem PySem.Spec PyProof.Rows L2 Pd
mutual
theorem reads_live {h : Heap} : ∀ {v : Value} {d : PyData} {as : List Addr}, Reads h v d as → ∀ b ∈ as, ∃ o, h.get? b = some o
  | _, _, _, .none, b, hb => nomatch hb
  | _, _, _, .bool _, b, hb => nomatch hb
  | _, _, _, .int _ _, b, hb => nomatch hb
  | _, _, _, .str _ _, b, hb => nomatch hb
  | _, _, _, .list h1 _ _ r, b, hb => by
    rcases List.mem_cons.mp hb with rfl | hb
    · exact ⟨_, h1⟩
    · exact readsAll_live r b hb
  | _, _, _, .tuple _ _ _ r, b, hb => readsAll_live r b hb
  | _, _, _, .dict h1 _ _ r1 r2, b, hb => by
    rcases List.mem_append.mp hb with hb | hb
    · rcases List.mem_cons.mp hb with rfl | hb
      · exact ⟨_, h1⟩
      · exact readsAll_live r1 b hb
    · exact readsAll_live r2 b hb
theorem readsAll_live {h : Heap} : ∀ {vs : List Value} {ds : List PyData} {as : List Addr}, ReadsAll h vs ds as → ∀ b ∈ as, ∃ o, h.get? b = some o
  | _, _, _, .nil, b, hb => nomatch hb
  | _, _, _, .cons r1 r2, b, hb => by
    rcases List.mem_append.mp hb with hb | hb
    · exact reads_live r1 b hb
    · exact readsAll_live r2 b hb
end
section
variable {P : Program} {w : World} {A : Around} {E : Value → Shared → Prop} {s : Shared} {β : Type} {R : Value → β → Prop} {enc : β → PyData} {vs : List Value} {bs : List β}
/-- sorted(tuple): a new list with the tuple's items in order -/
theorem sorted_tuple {l : Addr} {Q : Value → Shared → Prop} (hl : IsTup s.heap l vs.toArray) (e : PySem.W.EachIs R vs bs) (er : PySem.W.EachIs (fun v b => ∃ as, Reads s.heap v (enc b) as) vs bs) (hal : PySem.W.AllAlike (bs.map enc)) (hk : PySem.W.Sortable (bs.map enc))
    (hL : bs.length ≤ sizeLine) (hu : ∀ b, b ∈ bs → A.units + 2 + (enc b).depth < cLine)
    (h : ∀ (D : Addr) (g : Heap) (out : List Value) (c : Nat), (∀ b o, s.heap.get? b = some o → g.get? b = some o) → s.heap.get? D = none → g.get? D = some (seqObj "list" out.toArray c) → PySem.W.EachIs R out (bs.mergeSort (PySem.W.dataLe false enc)) → Q (.ref D) { s with heap := g }) :
    wpAny (model P w) A (call (.builtin "sorted") [.ref l]) Q E s := by
  obtain ⟨o, ho, hc, n, hd⟩ := hl
  have hvl : vs.length ≤ sizeLine := by rw [e.length]; exact hL
  refine Calls.call_function_entry kind_sorted plain_sorted entry_sorted (args_sorted1 _) ?_
  unfold Builtin.«sorted»
  refine wpAny_bind (m := checkCount "sorted" 1 1 _) (wpAny_pure ?_)
  refine wpAny_bind (wpAny_collect_seq l (.inr rfl) ho hc hd (fun g keep => ?_) (by rw [List.size_toArray]; exact hvl))
  refine wpAny_bind (wpAny_newList ?_ (by simpa using hvl))
  have at1 : (g.push (seqObj "list" vs.toArray 0)).get? g.objs.size = some (seqObj "list" vs.toArray 0) := Heap.get?_push_size _ rfl
  have keep1 : ∀ b o, s.heap.get? b = some o → (g.push (seqObj "list" vs.toArray 0)).get? b = some o := fun b o q => Heap.get?_push_of_some _ (keep b o q)
  have fresh : s.heap.get? g.objs.size = none := by
    cases q : s.heap.get? g.objs.size with
    | none => rfl
    | some o => exact absurd (Heap.lt_size (keep _ _ q)) (Nat.lt_irrefl _)
  have er2 : PySem.W.EachIs (fun v b => ∃ as, Reads (g.push (seqObj "list" vs.toArray 0)) v (enc b) as ∧ g.objs.size ∉ as) vs bs := er.mono fun v b ⟨as, r⟩ => ⟨as, PyProof.Rows.Reads.keeps keep1 r, fun hm => by
    obtain ⟨o, q⟩ := reads_live r _ hm
    rw [fresh] at q
    cases q⟩
  have hu2 : ∀ b, b ∈ bs → A.in1.units + 1 + (enc b).depth < cLine := fun b hb => by
    have := hu b hb
    have e1 : A.in1.units = A.units + 1 := rfl
    omega
  refine wpAny_bind (wpAny_holding (PySem.W.list_sort_data (s := { s with heap := g.push (seqObj "list" vs.toArray 0) }) (n := 0) at1 e er2 hal hk hL hu2 fun out ho2 eo => ?_))
  refine wpAny_pure ⟨_, rfl, ?_⟩
  obtain ⟨c, hc2⟩ := sortedHeap_at (vs := vs) (out := out.toArray) at1
  have sz : ∀ b o, s.heap.get? b = some o → b < g.objs.size := fun b o q => Heap.lt_size (keep b o q)
  refine h g.objs.size _ out c (fun b o q => ?_) fresh hc2 eo
  rw [sortedHeap_old (Nat.ne_of_lt (sz b o q)) (Heap.lt_size (keep1 b o q))]
  exact keep1 b o q
end
def rSortT (K : PySem.W.Frag) : List V → Hp → VK → Prop := fun vs H Q => ∃ (a : Addr) (xs : List V) (ps : List PyData), vs = [.ref a] ∧ SqT K H a xs ∧ DpAll K H xs ps ∧ PySem.W.AllAlike ps ∧ PySem.W.Sortable ps ∧ (∀ p ∈ ps, p.depth ≤ 60) ∧
  ∀ q, H q = none → Q (.ref q) (upd H q (.lst (((xs.zip ps).mergeSort (PySem.W.dataLe false Prod.snd)).map Prod.fst)))
theorem callSortT {X : Cx} (hu : X.A.units + 64 < cLine) : CallR X (.builtin "sorted") (rSortT X.K) := by
  intro pins s σ H vs us Q I r h
  obtain ⟨a, xs, ps, rfl, hs, hd, hal, hk, hdp, q⟩ := h
  obtain ⟨its, rv, hl, hz⟩ := I.tuple hs
  obtain ⟨u, rfl, ru⟩ := vals1 r
  obtain rfl : u = Value.ref a := ru
  obtain ⟨e1, e2⟩ := each_of I hd rv
  have hlen := dpall_len hd
  have ez : (xs.zip ps).map (fun b => b.2) = ps := zip_snd hlen
  have hzl : (xs.zip ps).length = xs.length := by rw [List.length_zip, hlen, Nat.min_self]
  refine sorted_tuple (enc := fun b : V × PyData => b.2) hl e1 e2 (by rw [ez]; exact hal) (by rw [ez]; exact hk) (by rw [hzl]; exact hz) (fun b hb => ?_) fun D g out c keep fr hD he => ?_
  · have := hdp b.2 (List.of_mem_zip hb).2
    omega
  · have hn : H D = none := I.hok.gone fr
    refine ⟨.ref D, _, I.laidN (o := .lst (((xs.zip ps).mergeSort (PySem.W.dataLe false Prod.snd)).map Prod.fst)) (t' := s.toks) keep fr hn ⟨?_, out, c, each_vals he, hD⟩, rfl, q _ hn⟩
    rw [List.length_map, List.length_mergeSort, hzl]
    exact hz
def rSortA (K : PySem.W.Frag) : List V → Hp → VK → Prop := fun vs H Q => rSortD K vs H Q ∨ rSortT K vs H Q
theorem callSortA {X : Cx} (hu : X.A.units + 64 < cLine) : CallR X (.builtin "sorted") (rSortA X.K) := fun pins s σ H xs us Q I r h => h.elim (callSortD hu pins s σ H xs us Q I r) (callSortT hu pins s σ H xs us Q I r)
/-- sorted(list or tuple) -/
noncomputable def sortA : Dt → Option Dt
  | .lst ds => sortD (.lst ds)
  | .tup ds => sortD (.lst ds)
  | _ => none
section
variable {K : PySem.W.Frag}
theorem cd_sortT {W : Wo} {P : Dt → Prop} {β : Type} {cs : List β} {dt : β → Dt} {enc : β → PyData} (h1 : ∀ c ∈ cs, toPy (dt c) = some (enc c)) (h2 : PySem.W.AllAlike (cs.map enc)) (h3 : PySem.W.Sortable (cs.map enc)) (h4 : ∀ c ∈ cs, (enc c).depth ≤ 60)
    (p : P (.lst ((cs.mergeSort (PySem.W.dataLe false enc)).map dt))) : CD W (rSortT W.K) [.tup (cs.map dt)] P := fun G H vs Q g hv k => by
  cases hv with
  | cons r rr =>
    cases rr
    obtain ⟨a, us, rfl, hG, r1⟩ := r.tup
    refine ⟨a, us, cs.map enc, rfl, sqT_mono g.sub hG, (r1.mono g.sub).dp (toPys_map h1), h2, h3, fun p hp => ?_, fun q hq => ?_⟩
    · obtain ⟨c, hc, rfl⟩ := List.mem_map.mp hp
      exact h4 c hc
    · exact k _ _ (upd G q (.lst _)) _ (Fr.new g hq) (g.new hq) (.lst upd_same ((sort_dr r1).mono (same_new (g.gn hq)))) p
theorem cs_sortA : CS1 K (rSortA K) sortA := fun x z h => by
  cases x with
  | lst ds =>
    refine fun G H vs Q g hv k => .inl (cs_sort (.lst ds) z h G H vs Q g hv k)
  | tup ds =>
    have h : sortD (.lst ds) = some z := h
    unfold sortD at h
    simp only at h
    cases hp : toPys ds with
    | none => rw [hp] at h; cases h
    | some ps =>
      rw [hp] at h
      simp only at h
      split at h
      · rename_i hc
        cases h
        obtain ⟨e1, e2⟩ := toPys_pyD hp
        subst e1
        have := cd_sortT (W := W0 K) (P := fun d => d = Dt.lst (srt pyD ds)) (cs := ds) (dt := id) (enc := pyD) e2 hc.1 hc.2.1 (fun c hc' => hc.2.2 _ (List.mem_map_of_mem hc')) (by rw [List.map_id])
        rw [List.map_id] at this
        exact fun G H vs Q g hv k => .inr (this G H vs Q g hv k)
      · cases h
  | _ => cases h
variable {X : Cx} {Γ : Cn} {F : Fm} [L : Lk X Γ] {e : Expr} {pos p : Pos} {g : Rg}
theorem qb_sortA (hg : Gl X "sorted") (hm : X.mg "sorted" = none) (ha : PR X Γ e g) (he : starEach [e] X.env = (false, eval e X.env) :: starEach [] X.env := by rfl) : PM X Γ (.Call (.Name "sorted" p) [e] [] pos) (mCB sortA g) := qe_cb1 (CallR.wq (r := rSortA) (callSortA (by have := L.un; omega))) cs_sortA hg hm (by decide +kernel) ha (by decide) (by decide) he
end
end Qm

set_option Elab.async false
set_option linter.all false
set_option maxRecDepth 100000
set_option maxHeartbeats 4000000
namespace Qm
open PySem PySem.Spec PyProof.Rows L2 Pd
/-! ### what a mirror comes to -/
/-- keeps what follows from being looked at too early -/
inductive Hid {α : Type} (P : α) : Type where
  | mk
def Wq {α : Type} (r : Res α) (P : α → List Sv → Prop) (_ : Hid P := .mk) : Prop := match r with
  | .ok a δ => P a δ
  | _ => False
def Wo {α : Type} (o : Option α) (P : α → Prop) (_ : Hid P := .mk) : Prop := match o with
  | some a => P a
  | none => False
/-- a branch -/
def Br (b : Bool) (p q : Prop) (_ : Hid p := .mk) (_ : Hid q := .mk) : Prop := if b = true then p else q
theorem br_t {p q : Prop} : Br true p q = p := id rfl
theorem br_f {p q : Prop} : Br false p q = q := id rfl
theorem br_not {b : Bool} {p q : Prop} : Br (!b) p q = Br b q p := by cases b <;> rfl
theorem br_of {b : Bool} {p q : Prop} (h1 : b = true → p) (h0 : b = false → q) : Br b p q := by
  cases b
  · exact h0 rfl
  · exact h1 rfl
theorem br_dec {c : Prop} [Decidable c] {p q : Prop} (h1 : c → p) (h0 : ¬ c → q) : Br (decide c) p q := br_of (fun h => h1 (of_decide_eq_true h)) fun h => h0 (of_decide_eq_false h)
section
variable {α β : Type} {P : α → List Sv → Prop} {δ : List Sv}
theorem Wq.ext {r : Res α} {P Q : α → List Sv → Prop} (h : ∀ a δ, P a δ = Q a δ) : Wq r P = Wq r Q := by
  have e : P = Q := funext fun a => funext fun δ => h a δ
  subst e
  rfl
theorem Wo.ext {r : Option α} {P Q : α → Prop} (h : ∀ a, P a = Q a) : Wo r P = Wo r Q := by
  have e : P = Q := funext h
  subst e
  rfl
theorem Wq.get {r : Res α} (h : Wq r P) : ∃ a δ, r = .ok a δ ∧ P a δ := by
  cases r with
  | ok a δ => exact ⟨a, δ, rfl, h⟩
  | exc x δ => exact h.elim
  | bad => exact h.elim
theorem Wq.imp {r : Res α} {Q : α → List Sv → Prop} (h : Wq r P) (k : ∀ a δ, P a δ → Q a δ) : Wq r Q := by
  cases r with
  | ok a δ => exact k a δ h
  | exc x δ => exact h.elim
  | bad => exact h.elim
theorem Wq.of {r : Res α} {a : α} (e : r = .ok a δ) (h : P a δ) : Wq r P := by rw [e]; exact h
theorem qwp_ok {a : α} : Wq (.ok a δ) P = P a δ := id rfl
theorem qwp_bad : Wq (.bad : Res α) P = False := id rfl
theorem qwp_bnd {r : Res β} {f : β → List Sv → Res α} : Wq (r.bnd f) P = Wq r fun b δ1 => Wq (f b δ1) P := by cases r <;> rfl
theorem qwp_noX {r : Res α} : Wq (noX r) P = Wq r P := by cases r <;> rfl
theorem qwp_opt {o : Option α} : Wq (opt o δ) P = Wo o fun a => P a δ := by cases o <;> rfl
theorem wo_some {a : α} {P : α → Prop} : Wo (some a) P = P a := id rfl
theorem wo_none {P : α → Prop} : Wo (none : Option α) P = False := id rfl
theorem wo_map {o : Option β} {f : β → α} {P : α → Prop} : Wo (o.map f) P = Wo o fun b => P (f b) := by cases o <;> rfl
theorem wo_ite {c : Prop} [Decidable c] {a : α} {P : α → Prop} : Wo (if c then some a else none) P = (c ∧ P a) := by
  by_cases h : c <;> simp [h, Wo]
theorem qwp_ite {c : Prop} [Decidable c] {r : Res α} : Wq (if c then r else .bad) P = (c ∧ Wq r P) := by
  by_cases h : c <;> simp [h, Wq]
theorem qwp_if {c : Prop} [Decidable c] {r r' : Res α} : Wq (if c then r else r') P = if c then Wq r P else Wq r' P := by
  by_cases h : c <;> simp [h]
theorem qwp_mC {d : Dt} {P : Dt → List Sv → Prop} : Wq (mC d δ) P = P d δ := id rfl
/-- a name's datum -/
def atV (P : Dt → List Sv → Prop) (δ : List Sv) (i : Nat) (o : Option Sv) (_ : Hid P := .mk) : Prop := match o with
  | some (.dat d) => P d δ
  | some (.lst ds) => P (.lst ds) (δ.set i (.dat (.lst ds)))
  | _ => False
theorem qwp_var {i : Nat} {P : Dt → List Sv → Prop} : Wq (mVar i δ) P = atV P δ i δ[i]? := by
  unfold mVar atV
  split <;> simp_all [Wq]
theorem atV_dat {i : Nat} {d : Dt} {P : Dt → List Sv → Prop} : atV P δ i (some (.dat d)) = P d δ := id rfl
theorem atV_lst {i : Nat} {d : List Dt} {P : Dt → List Sv → Prop} : atV P δ i (some (.lst d)) = P (.lst d) (δ.set i (.dat (.lst d))) := id rfl
def atP (P : Dt ⊕ Nat → List Sv → Prop) (δ : List Sv) (i : Nat) (o : Option Sv) (_ : Hid P := .mk) : Prop := match o with
  | some (.dat _) => P (.inr i) δ
  | some (.lst _) => P (.inr i) δ
  | _ => False
theorem qwp_rg {g : M Dt} {P : Dt ⊕ Nat → List Sv → Prop} : Wq ((Rg.ex g).run δ) P = Wq (g δ) fun d δ1 => P (.inl d) δ1 := id qwp_bnd
theorem qwp_pk {i : Nat} {P : Dt ⊕ Nat → List Sv → Prop} : Wq ((Rg.pk i).run δ) P = atP P δ i δ[i]? := by
  unfold Rg.run atP
  split <;> simp_all [Wq]
theorem atP_dat {i : Nat} {d : Dt} {P : Dt ⊕ Nat → List Sv → Prop} : atP P δ i (some (.dat d)) = P (.inr i) δ := id rfl
theorem atP_lst {i : Nat} {d : List Dt} {P : Dt ⊕ Nat → List Sv → Prop} : atP P δ i (some (.lst d)) = P (.inr i) δ := id rfl
def svD : Option Sv → Option Dt
  | some (.lst ds) => some (.lst ds)
  | some (.dat d) => some d
  | _ => none
theorem rv_inr {i : Nat} : rv δ (.inr i) = svD δ[i]? := id rfl
theorem svD_dat {d : Dt} : svD (some (.dat d)) = some d := id rfl
theorem svD_lst {d : List Dt} : svD (some (.lst d)) = some (.lst d) := id rfl
theorem qwp_op {f : Dt → Dt → Option Dt} {a b : Rg} {P : Dt → List Sv → Prop} : Wq (mOp f a b δ) P = Wq (a.run δ) fun x δ1 => Wq (b.run δ1) fun y δ2 => Wo (rv δ2 x) fun u => Wo (rv δ2 y) fun v => Wo (f u v) fun z => P z δ2 := by
  unfold mOp
  rw [qwp_bnd]
  refine Wq.ext fun x δ1 => ?_
  rw [qwp_bnd]
  refine Wq.ext fun y δ2 => ?_
  cases rv δ2 x <;> cases rv δ2 y <;> simp [opt2, Wo, Wq]
  rename_i u v
  cases f u v <;> rfl
theorem qwp_cb {f : Dt → Option Dt} {a : Rg} {P : Dt → List Sv → Prop} : Wq (mCB f a δ) P = Wq (a.run δ) fun x δ1 => Wo (rv δ1 x) fun u => Wo (f u) fun z => P z δ1 := by
  unfold mCB
  rw [qwp_bnd]
  refine Wq.ext fun x δ1 => ?_
  rw [qwp_bnd, qwp_opt]
  refine Wo.ext fun u => ?_
  rw [qwp_opt]
theorem qwp_un {f : Dt → Option Dt} {a : M Dt} {P : Dt → List Sv → Prop} : Wq (mUn f a δ) P = Wq (a δ) fun u δ1 => Wo (f u) fun z => P z δ1 := by
  unfold mUn
  rw [qwp_bnd]
  refine Wq.ext fun x δ1 => ?_
  rw [qwp_opt]
def atB (P : Bool → Prop) (x : Dt) (_ : Hid P := .mk) : Prop := match x with
  | .bl b => P b
  | _ => False
theorem atB_bl {b : Bool} {P : Bool → Prop} : atB P (.bl b) = P b := id rfl
theorem qwp_mBl {r : Res Dt} {P : Bool → List Sv → Prop} : Wq (mBl r) P = Wq r fun d δ1 => atB (fun b => P b δ1) d := by
  unfold mBl
  rw [qwp_bnd]
  refine Wq.ext fun x δ1 => ?_
  cases x <;> rfl
theorem qwp_chain {f f' : Dt → Dt → Option Dt} {a b c : Rg} {P : Dt → List Sv → Prop} : Wq (mChain f f' a b c δ) P = Wq (a.run δ) fun x δ1 => Wq (b.run δ1) fun y δ2 => Wo (rv δ2 x) fun u => Wo (rv δ2 y) fun v => Wo (f u v) fun z => atB (fun t => Br t (Wq (c.run δ2) fun z δ3 => Wo (rv δ3 y) fun u => Wo (rv δ3 z) fun v => Wo (f' u v) fun z => P z δ3) (P (.bl false) δ2)) z := by
  unfold mChain
  rw [qwp_bnd]
  refine Wq.ext fun x δ1 => ?_
  rw [qwp_bnd]
  refine Wq.ext fun y δ2 => ?_
  rw [qwp_bnd, qwp_mBl]
  cases rv δ2 x with
  | none => rfl
  | some u =>
    cases rv δ2 y with
    | none => rfl
    | some v =>
      show Wq (opt (f u v) δ2) _ = Wo (f u v) _
      rw [qwp_opt]
      refine Wo.ext fun z => ?_
      cases z <;> try rfl
      rename_i t
      cases t
      · rfl
      · show Wq ((c.run δ2).bnd _) P = Wq (c.run δ2) _
        rw [qwp_bnd]
        refine Wq.ext fun z δ3 => ?_
        generalize rv δ3 y = o1
        generalize rv δ3 z = o2
        cases o1 with
        | none => rfl
        | some u =>
          cases o2 with
          | none => rfl
          | some v =>
            show Wq (opt (f' u v) δ3) _ = Wo (f' u v) _
            rw [qwp_opt]
theorem qwp_isN {b : Bool} {m : M Dt} {P : Dt → List Sv → Prop} : Wq (mIsN b m δ) P = Wq (m δ) fun d δ1 => Wo (isN d) fun t => P (.bl (if b then t else !t)) δ1 := by
  unfold mIsN
  rw [qwp_bnd]
  refine Wq.ext fun x δ1 => ?_
  rw [qwp_bnd, qwp_opt]
  rfl
theorem qwp_and {a b : M Bool} {P : Bool → List Sv → Prop} : Wq (mAnd a b δ) P = Wq (a δ) fun t δ1 => Br t (Wq (b δ1) P) (P false δ1) := by
  unfold mAnd
  rw [qwp_bnd]
  refine Wq.ext fun x δ1 => ?_
  rw [qwp_if]; rfl
theorem qwp_or {a b : M Bool} {P : Bool → List Sv → Prop} : Wq (mOr a b δ) P = Wq (a δ) fun t δ1 => Br t (P true δ1) (Wq (b δ1) P) := by
  unfold mOr
  rw [qwp_bnd]
  refine Wq.ext fun x δ1 => ?_
  rw [qwp_if]; rfl
theorem qwp_not {a : M Bool} {P : Bool → List Sv → Prop} : Wq (mNot a δ) P = Wq (a δ) fun t δ1 => P (!t) δ1 := id qwp_bnd
theorem qwp_andV {a b : M Dt} {P : Dt → List Sv → Prop} : Wq (mAndV a b δ) P = Wq (a δ) fun d δ1 => atB (fun t => Br t (Wq (b δ1) P) (P (.bl false) δ1)) d := by
  unfold mAndV
  rw [qwp_bnd, qwp_mBl]
  refine Wq.ext fun x δ1 => ?_
  cases x <;> try rfl
  show Wq (if _ then _ else _) P = _
  rw [qwp_if]; rfl
theorem qwp_orV {a b : M Dt} {P : Dt → List Sv → Prop} : Wq (mOrV a b δ) P = Wq (a δ) fun d δ1 => atB (fun t => Br t (P (.bl true) δ1) (Wq (b δ1) P)) d := by
  unfold mOrV
  rw [qwp_bnd, qwp_mBl]
  refine Wq.ext fun x δ1 => ?_
  cases x <;> try rfl
  show Wq (if _ then _ else _) P = _
  rw [qwp_if]; rfl
theorem qwp_notV {a : M Dt} {P : Dt → List Sv → Prop} : Wq (mNotV a δ) P = Wq (a δ) fun d δ1 => atB (fun t => P (.bl (!t)) δ1) d := by
  unfold mNotV
  rw [qwp_bnd, qwp_mBl]
  rfl
theorem qwp_mIf {t : M Bool} {a b : M α} : Wq (mIf t a b δ) P = Wq (t δ) fun c δ1 => Br c (Wq (a δ1) P) (Wq (b δ1) P) := by
  unfold mIf
  rw [qwp_bnd]
  refine Wq.ext fun x δ1 => ?_
  rw [qwp_if]; rfl
theorem qwp_all0 {P : List Dt → List Sv → Prop} : Wq (mAll [] δ) P = P [] δ := id rfl
theorem qwp_all1 {m : M Dt} {ms : List (M Dt)} {P : List Dt → List Sv → Prop} : Wq (mAll (m :: ms) δ) P = Wq (m δ) fun d δ1 => Wq (mAll ms δ1) fun ds δ2 => P (d :: ds) δ2 := by
  show Wq ((m δ).bnd _) P = _
  rw [qwp_bnd]
  refine Wq.ext fun x δ1 => ?_
  rw [qwp_bnd]
  rfl
theorem qwp_tup {ms : List (M Dt)} {P : Dt → List Sv → Prop} : Wq (mTup ms δ) P = Wq (mAll ms δ) fun ds δ1 => ds.length ≤ 100000 ∧ P (.tup ds) δ1 := by
  unfold mTup
  rw [qwp_bnd]
  refine Wq.ext fun x δ1 => ?_
  rw [qwp_ite]; rfl
theorem qwp_lst {ms : List (M Dt)} {P : Dt → List Sv → Prop} : Wq (mLst ms δ) P = Wq (mAll ms δ) fun ds δ1 => ds.length ≤ 100000 ∧ P (.lst ds) δ1 := by
  unfold mLst
  rw [qwp_bnd]
  refine Wq.ext fun x δ1 => ?_
  rw [qwp_ite]; rfl
theorem qwp_lstN {ms : List (M Dt)} {P : Sv → List Sv → Prop} : Wq (mLstN ms δ) P = Wq (mAll ms δ) fun ds δ1 => ds.length ≤ 100000 ∧ P (.lst ds) δ1 := by
  unfold mLstN
  rw [qwp_bnd]
  refine Wq.ext fun x δ1 => ?_
  rw [qwp_ite]; rfl
theorem qwp_dv {m : M Dt} {P : Sv → List Sv → Prop} : Wq (mDv m δ) P = Wq (m δ) fun d δ1 => P (.dat d) δ1 := id qwp_bnd
def atF (P : Dt → Prop) (x : Sv) (_ : Hid P := .mk) : Prop := match x with
  | .dat d => P d
  | .lst ds => P (.lst ds)
  | _ => False
theorem atF_dat {d : Dt} {P : Dt → Prop} : atF P (.dat d) = P d := id rfl
theorem atF_lst {d : List Dt} {P : Dt → Prop} : atF P (.lst d) = P (.lst d) := id rfl
theorem qwp_fz {m : M Sv} {P : Dt → List Sv → Prop} : Wq (mFz m δ) P = Wq (m δ) fun s δ1 => atF (fun d => P d δ1) s := by
  unfold mFz
  rw [qwp_bnd]
  refine Wq.ext fun x δ1 => ?_
  cases x <;> rfl
def atO (P : Option Int → List Sv → Prop) (δ : List Sv) (x : Dt) (_ : Hid P := .mk) : Prop := match x with
  | .int i => P (some i) δ
  | _ => False
theorem atO_int {i : Int} {P : Option Int → List Sv → Prop} : atO P δ (.int i) = P (some i) δ := id rfl
theorem qwp_part0 {P : Option Int → List Sv → Prop} : Wq (mPart none δ) P = P none δ := id rfl
theorem qwp_part1 {m : M Dt} {P : Option Int → List Sv → Prop} : Wq (mPart (some m) δ) P = Wq (m δ) fun d δ1 => atO P δ1 d := by
  unfold mPart
  simp only
  rw [qwp_bnd]
  refine Wq.ext fun x δ1 => ?_
  cases x <;> rfl
theorem qwp_sl {a : Rg} {lo hi : Option (M Dt)} {P : Dt → List Sv → Prop} : Wq (mSl a lo hi δ) P = Wq (a.run δ) fun x δ1 => Wq (mPart lo δ1) fun l δ2 => Wq (mPart hi δ2) fun h δ3 => Wo (rv δ3 x) fun d => Wo (slD d l h) fun z => P z δ3 := by
  unfold mSl
  rw [qwp_bnd]
  refine Wq.ext fun x δ1 => ?_
  rw [qwp_bnd]
  refine Wq.ext fun l δ2 => ?_
  rw [qwp_bnd]
  refine Wq.ext fun h δ3 => ?_
  rw [qwp_bnd, qwp_opt]
  refine Wo.ext fun u => ?_
  rw [qwp_opt]
theorem qwp_fld {cs : List Addr} {f : Str} {m : M Dt} {P : Dt → List Sv → Prop} : Wq (mFld cs f m δ) P = Wq (m δ) fun d δ1 => Wo (fldD cs f d) fun z => P z δ1 := by
  unfold mFld
  rw [qwp_bnd]
  refine Wq.ext fun x δ1 => ?_
  rw [qwp_opt]
/-! targets -/
theorem qwp_tgN {i : Nat} {d : Dt} {P : Unit → List Sv → Prop} : Wq (tgN i d δ) P = P () (δ.set i (.dat d)) := id rfl
theorem qwp_tgT {n : Nat} {ts : Tgts} {ds : List Dt} {P : Unit → List Sv → Prop} : Wq (tgT n ts (.tup ds) δ) P = (ds.length = n ∧ Wq (ts ds δ) P) := by
  unfold tgT
  simp only
  rw [qwp_ite]
theorem qwp_tgNil {P : Unit → List Sv → Prop} : Wq (tgNil [] δ) P = P () δ := id rfl
theorem qwp_tgCons {t : Tgt} {ts : Tgts} {d : Dt} {ds : List Dt} {P : Unit → List Sv → Prop} : Wq (tgCons t ts (d :: ds) δ) P = Wq (t d δ) fun _ δ1 => Wq (ts ds δ1) P := id qwp_bnd
/-! statements -/
def seqK (b : M Fl) (P : Fl → List Sv → Prop) (fl : Fl) (δ : List Sv) (_ : Hid (b, P) := .mk) : Prop := match fl with
  | .nx => Wq (b δ) P
  | fl => P fl δ
theorem qseqK_nx {b : M Fl} {P : Fl → List Sv → Prop} : seqK b P .nx δ = Wq (b δ) P := id rfl
theorem seqK_rt {b : M Fl} {P : Fl → List Sv → Prop} {s : Sv} : seqK b P (.rt s) δ = P (.rt s) δ := id rfl
theorem seqK_bk {b : M Fl} {P : Fl → List Sv → Prop} : seqK b P .bk δ = P .bk δ := id rfl
theorem seqK_ct {b : M Fl} {P : Fl → List Sv → Prop} : seqK b P .ct δ = P .ct δ := id rfl
theorem qwp_seq {a b : M Fl} {P : Fl → List Sv → Prop} : Wq (mSeq a b δ) P = Wq (a δ) (fun fl δ1 => seqK b P fl δ1) := by
  unfold mSeq
  rw [qwp_bnd]
  refine Wq.ext fun x δ1 => ?_
  cases x <;> rfl
theorem qwp_nx {P : Fl → List Sv → Prop} : Wq (mNx δ) P = P .nx δ := id rfl
theorem qwp_bk {P : Fl → List Sv → Prop} : Wq (mBk δ) P = P .bk δ := id rfl
theorem qwp_ct {P : Fl → List Sv → Prop} : Wq (mCt δ) P = P .ct δ := id rfl
theorem qwp_mBad {P : Fl → List Sv → Prop} : Wq (mBad δ) P = False := id rfl
theorem qwp_mNo {P : α → List Sv → Prop} : Wq (mNo δ) P = False := id rfl
theorem qwp_ret {m : M Dt} {P : Fl → List Sv → Prop} : Wq (mRet m δ) P = Wq (m δ) fun d δ1 => P (.rt (.dat d)) δ1 := id qwp_bnd
theorem qwp_retO {m : M Sv} {P : Fl → List Sv → Prop} : Wq (mRetO m δ) P = Wq (m δ) fun d δ1 => P (.rt d) δ1 := id qwp_bnd
theorem qwp_retN {P : Fl → List Sv → Prop} : Wq (mRetN δ) P = P (.rt (.dat .non)) δ := id rfl
theorem qwp_drop {m : M Dt} {P : Fl → List Sv → Prop} : Wq (mDrop m δ) P = Wq (m δ) fun _ δ1 => P .nx δ1 := id qwp_bnd
theorem qwp_asg {i : Nat} {m : M Dt} {P : Fl → List Sv → Prop} : Wq (mAsg i m δ) P = Wq (m δ) fun d δ1 => P .nx (δ1.set i (.dat d)) := id qwp_bnd
theorem qwp_asgO {i : Nat} {m : M Sv} {P : Fl → List Sv → Prop} : Wq (mAsgO i m δ) P = Wq (m δ) fun d δ1 => P .nx (δ1.set i d) := id qwp_bnd
theorem qwp_asgT {t : Tgt} {m : M Dt} {P : Fl → List Sv → Prop} : Wq (mAsgT t m δ) P = Wq (m δ) fun d δ1 => Wq (t d δ1) fun _ δ2 => P .nx δ2 := by
  unfold mAsgT
  rw [qwp_bnd]
  refine Wq.ext fun x δ1 => ?_
  rw [qwp_bnd]
  rfl
theorem qwp_par {i j : Nat} {a b : M Sv} {P : Fl → List Sv → Prop} : Wq (mPar i j a b δ) P = Wq (a δ) fun s δ1 => Wq (b δ1) fun t δ2 => P .nx ((δ2.set i s).set j t) := by
  unfold mPar
  rw [qwp_bnd]
  refine Wq.ext fun x δ1 => ?_
  rw [qwp_bnd]
  rfl
theorem qwp_par3 {i j l : Nat} {a b c : M Dt} {P : Fl → List Sv → Prop} : Wq (mPar3 i j l a b c δ) P = Wq (a δ) fun x δ1 => Wq (b δ1) fun y δ2 => Wq (c δ2) fun z δ3 => P .nx (((δ3.set i (.dat x)).set j (.dat y)).set l (.dat z)) := by
  unfold mPar3
  rw [qwp_bnd]
  refine Wq.ext fun x δ1 => ?_
  rw [qwp_bnd]
  refine Wq.ext fun y δ2 => ?_
  rw [qwp_bnd]
  rfl
/-! own lists -/
def atL (P : List Dt → Prop) (x : Option Sv) (_ : Hid P := .mk) : Prop := match x with
  | some (.lst ds) => P ds
  | _ => False
theorem atL_lst {ds : List Dt} {P : List Dt → Prop} : atL P (some (.lst ds)) = P ds := id rfl
theorem qwp_app {i : Nat} {m : M Dt} {P : Dt → List Sv → Prop} : Wq (mApp i m δ) P = (isL δ[i]? = true ∧ Wq (m δ) fun d δ1 => atL (fun ds => ds.length < 100000 ∧ P .non (δ1.set i (.lst (ds ++ [d])))) δ1[i]?) := by
  unfold mApp
  rw [qwp_ite, qwp_bnd]
  refine congrArg (And _) (Wq.ext fun d δ1 => ?_)
  unfold appL atL
  split <;> simp_all [qwp_ite, qwp_bad, qwp_ok]
def atI2 (P : Int → Prop) (x : Dt) (_ : Hid P := .mk) : Prop := match x with
  | .int k => P k
  | _ => False
theorem atI2_int {k : Int} {P : Int → Prop} : atI2 P (.int k) = P k := id rfl
theorem qwp_pop {i : Nat} {m : M Dt} {P : Dt → List Sv → Prop} : Wq (mPop i m δ) P = (isL δ[i]? = true ∧ Wq (m δ) fun d δ1 => atI2 (fun k => atL (fun ds => (0 ≤ k ∧ k < 2 ^ 62) ∧ Wo ds[k.toNat]? fun y => P y (δ1.set i (.lst (ds.eraseIdx k.toNat)))) δ1[i]?) d) := by
  unfold mPop
  rw [qwp_ite, qwp_bnd]
  refine congrArg (And _) (Wq.ext fun d δ1 => ?_)
  cases d <;> try rfl
  rename_i k
  unfold popL atI2
  generalize δ1[i]? = o
  cases o with
  | none => rfl
  | some s =>
    cases s <;> try rfl
    rename_i ds
    simp only [atL]
    rw [qwp_ite]
    congr 1
    cases ds[k.toNat]? <;> rfl
theorem qwp_tgSub {i : Nat} {m : M Dt} {d : Dt} {P : Unit → List Sv → Prop} : Wq (tgSub i m d δ) P = (isL δ[i]? = true ∧ Wq (m δ) fun k δ1 => atI2 (fun k => atL (fun ds => Wo (ixN ds.length k) fun j => P () (δ1.set i (.lst (ds.set j d)))) δ1[i]?) k) := by
  unfold tgSub
  rw [qwp_ite, qwp_bnd]
  refine congrArg (And _) (Wq.ext fun k δ1 => ?_)
  cases k <;> try rfl
  rename_i k
  unfold setL atI2
  generalize δ1[i]? = o
  cases o with
  | none => rfl
  | some s =>
    cases s <;> try rfl
    rename_i ds
    simp only [atL]
    cases ixN ds.length k <;> rfl
theorem isL_lst {ds : List Dt} : isL (some (.lst ds)) = true := id rfl
/-! calls -/
theorem qwp_call {c : List Sv → Res Sv} {ags : List Ag} {P : Sv → List Sv → Prop} : Wq (mCall c ags δ) P = Wq (mAgs ags δ) fun ds δ1 => Wq (c (pickA δ1 ags ds)) fun s outs => P s (backS δ1 (ags.map Ag.kind) outs) := by
  unfold mCall
  rw [qwp_bnd]
  refine Wq.ext fun ds δ1 => ?_
  cases c (pickA δ1 ags ds) <;> rfl
theorem qwp_ags0 {P : List Dt → List Sv → Prop} : Wq (mAgs [] δ) P = P [] δ := id rfl
theorem qwp_agsE {m : M Dt} {as : List Ag} {P : List Dt → List Sv → Prop} : Wq (mAgs (.ex m :: as) δ) P = Wq (m δ) fun d δ1 => Wq (mAgs as δ1) fun ds δ2 => P (d :: ds) δ2 := by
  show Wq ((m δ).bnd _) P = _
  rw [qwp_bnd]
  refine Wq.ext fun x δ1 => ?_
  rw [qwp_bnd]
  rfl
theorem qwp_agsI {i : Nat} {as : List Ag} {P : List Dt → List Sv → Prop} : Wq (mAgs (.io i :: as) δ) P = (isOwn δ[i]? = true ∧ Wq (mAgs as δ) fun ds δ2 => P (.non :: ds) δ2) := by
  show Wq (if isOwn δ[i]? = true then (mAgs as δ).bnd _ else .bad) P = _
  rw [qwp_ite, qwp_bnd]
  rfl
theorem isOwn_lst {ds : List Dt} : isOwn (some (.lst ds)) = true := id rfl
theorem pick0 : pickA δ [] [] = [] := id rfl
theorem pickE {m : M Dt} {as : List Ag} {d : Dt} {ds : List Dt} : pickA δ (.ex m :: as) (d :: ds) = .dat d :: pickA δ as ds := id rfl
theorem pickI {i : Nat} {as : List Ag} {d : Dt} {ds : List Dt} : pickA δ (.io i :: as) (d :: ds) = δ.getD i .un :: pickA δ as ds := id rfl
theorem back0 {as : List Sv} : backS δ [] as = δ := by unfold backS; rfl
theorem backN {ks : List (Option Nat)} {a : Sv} {as : List Sv} : backS δ (none :: ks) (a :: as) = backS δ ks as := id rfl
theorem backX {ks : List (Option Nat)} : backS δ (none :: ks) [] = δ := id rfl
theorem backI {j : Nat} {ks : List (Option Nat)} {a : Sv} {as : List Sv} : backS δ (some j :: ks) (a :: as) = (backS δ ks as).set j a := id rfl
theorem kindE {m : M Dt} : Ag.kind (.ex m) = none := id rfl
theorem kindI {i : Nat} : Ag.kind (.io i) = some i := id rfl
def fnK (q : Nat) (P : Sv → List Sv → Prop) (fl : Fl) (δ : List Sv) (_ : Hid P := .mk) : Prop := match fl with
  | .rt s => P s (δ.take q)
  | .nx => P (.dat .non) (δ.take q)
  | _ => False
theorem fnK_rt {q : Nat} {P : Sv → List Sv → Prop} {s : Sv} : fnK q P (.rt s) δ = P s (δ.take q) := id rfl
theorem fnK_nx {q : Nat} {P : Sv → List Sv → Prop} : fnK q P .nx δ = P (.dat .non) (δ.take q) := id rfl
theorem qwp_fn {N n q : Nat} {m : M Fl} {args : List Sv} {P : Sv → List Sv → Prop} : Wq (fnOf N n q m args) P = Wq (m (args ++ List.replicate (N - n) .un)) (fun fl δ1 => fnK q P fl δ1) := by
  unfold fnOf
  cases m (args ++ List.replicate (N - n) .un) with
  | ok fl δ => cases fl <;> rfl
  | exc x δ => rfl
  | bad => rfl
theorem qwp_callA {i : Nat} {S : Addr → Option (List Sv → Res Sv)} {ags : List Ag} {f : Addr} {c : List Sv → Res Sv} {P : Sv → List Sv → Prop} (h : δ[i]? = some (.dat (.raw (.ref f)))) (hc : S f = some c) : Wq (mCallA i S ags δ) P = Wq (mCall c ags δ) P := by
  unfold mCallA
  rw [h]
  simp only [hc]
/-! loops -/
theorem qwp_for {it : M (List Dt)} {t : Tgt} {b : M Fl} {P : Fl → List Sv → Prop} : Wq (mFor it t b δ) P = Wq (it δ) fun ds δ1 => Wq (forL t b ds δ1) P := id qwp_bnd
theorem qfor0 {t : Tgt} {b : M Fl} {P : Fl → List Sv → Prop} : Wq (forL t b [] δ) P = P .nx δ := id rfl
def forK (t : Tgt) (b : M Fl) (ds : List Dt) (P : Fl → List Sv → Prop) (fl : Fl) (δ : List Sv) (_ : Hid (t, b, P) := .mk) : Prop := match fl with
  | .nx => Wq (forL t b ds δ) P
  | .ct => Wq (forL t b ds δ) P
  | .bk => P .nx δ
  | .rt s => P (.rt s) δ
theorem qfor1 {t : Tgt} {b : M Fl} {d : Dt} {ds : List Dt} {P : Fl → List Sv → Prop} : Wq (forL t b (d :: ds) δ) P = Wq (t d δ) fun _ δ1 => Wq (b δ1) (fun fl δ2 => forK t b ds P fl δ2) := by
  show Wq ((t d δ).bnd _) P = _
  rw [qwp_bnd]
  refine Wq.ext fun x δ1 => ?_
  rw [qwp_bnd]
  refine Wq.ext fun fl δ2 => ?_
  cases fl <;> rfl
/-- what stands after a round -/
def rndK (I : List Sv → Prop) (P : Fl → List Sv → Prop) (fl : Fl) (δ : List Sv) (_ : Hid (I, P) := .mk) : Prop := match fl with
  | .nx => I δ
  | .ct => I δ
  | .bk => P .nx δ
  | .rt s => P (.rt s) δ
theorem rndK_nx {I : List Sv → Prop} {P : Fl → List Sv → Prop} : rndK I P .nx δ = I δ := id rfl
theorem rndK_ct {I : List Sv → Prop} {P : Fl → List Sv → Prop} : rndK I P .ct δ = I δ := id rfl
theorem rndK_bk {I : List Sv → Prop} {P : Fl → List Sv → Prop} : rndK I P .bk δ = P .nx δ := id rfl
theorem rndK_rt {I : List Sv → Prop} {P : Fl → List Sv → Prop} {s : Sv} : rndK I P (.rt s) δ = P (.rt s) δ := id rfl
/-- a loop over a list with an invariant at each place -/
theorem qfor_at {t : Tgt} {b : M Fl} {ds : List Dt} {P : Fl → List Sv → Prop} (I : Nat → List Sv → Prop) (h0 : I 0 δ) (hs : ∀ i d δ, ds[i]? = some d → I i δ → Wq (t d δ) fun _ δ1 => Wq (b δ1) (fun fl δ2 => rndK (I (i + 1)) P fl δ2)) (hP : ∀ δ, I ds.length δ → P .nx δ) : Wq (forL t b ds δ) P := by
  suffices H : ∀ (es : List Dt) (n : Nat) (δ : List Sv), es = ds.drop n → n + es.length = ds.length → I n δ → Wq (forL t b es δ) P from H ds 0 δ rfl (by omega) h0
  intro es
  induction es with
  | nil =>
    intro n δ e hn hI
    simp only [List.length_nil, Nat.add_zero] at hn
    subst hn
    exact hP δ hI
  | cons d es ih =>
    intro n δ e hn hI
    have hd : ds[n]? = some d := by
      have := congrArg List.head? e
      simpa [List.head?_drop] using this.symm
    rw [qfor1]
    refine (hs n d δ hd hI).imp fun _ δ1 h1 => h1.imp fun fl δ2 h2 => ?_
    have e2 : es = ds.drop (n + 1) := by
      have := congrArg List.tail e
      simpa [List.tail_drop] using this
    cases fl with
    | nx => exact ih (n + 1) δ2 e2 (by simp at hn; omega) h2
    | ct => exact ih (n + 1) δ2 e2 (by simp at hn; omega) h2
    | bk => exact h2
    | rt s => exact h2
theorem qwp_iter {m : M Dt} {P : List Dt → List Sv → Prop} : Wq (mIter m δ) P = Wq (m δ) fun d δ1 => Wo (seqD d) fun ds => P ds δ1 := by
  unfold mIter
  rw [qwp_bnd]
  refine Wq.ext fun x δ1 => ?_
  rw [qwp_opt]
theorem qwp_rng1 {m : M Dt} {P : List Dt → List Sv → Prop} : Wq (mRng1 m δ) P = Wq (m δ) fun d δ1 => atI2 (fun j => (-(2 ^ 62) ≤ j ∧ j < 2 ^ 62) ∧ P (upto 0 j.toNat) δ1) d := by
  unfold mRng1
  rw [qwp_bnd]
  refine Wq.ext fun x δ1 => ?_
  cases x <;> try rfl
  simp only [atI2]
  rw [qwp_ite]
  rfl
theorem qwp_rng2 {m1 m2 : M Dt} {P : List Dt → List Sv → Prop} : Wq (mRng2 m1 m2 δ) P = Wq (m1 δ) fun d δ1 => Wq (m2 δ1) fun e δ2 => atI2 (fun i => atI2 (fun j => ((-(2 ^ 62) ≤ i ∧ i < 2 ^ 62) ∧ -(2 ^ 62) ≤ j ∧ j < 2 ^ 62) ∧ P (upto i (j - i).toNat) δ2) e) d := by
  unfold mRng2
  rw [qwp_bnd]
  refine Wq.ext fun x δ1 => ?_
  rw [qwp_bnd]
  refine Wq.ext fun y δ2 => ?_
  cases x <;> try rfl
  cases y <;> try rfl
  simp only [atI2]
  rw [qwp_ite]
  rfl
def atS (P : List Dt → Prop) (x : Dt) (_ : Hid P := .mk) : Prop := match x with
  | .tup ds => P ds
  | .lst ds => P ds
  | _ => False
theorem atS_tup {ds : List Dt} {P : List Dt → Prop} : atS P (.tup ds) = P ds := id rfl
theorem atS_lst {ds : List Dt} {P : List Dt → Prop} : atS P (.lst ds) = P ds := id rfl
theorem qwp_enum {m : M Dt} {P : List Dt → List Sv → Prop} : Wq (mEnum m δ) P = Wq (m δ) fun d δ1 => atS (fun ds => P (enumD ds) δ1) d := by
  unfold mEnum
  rw [qwp_bnd]
  refine Wq.ext fun x δ1 => ?_
  cases x <;> rfl
/-! comprehensions -/
theorem qwp_lc {it : M (List Dt)} {vs : List Nat} {t : Tgt} {c : M Bool} {el : M Dt} {P : List Dt → List Sv → Prop} : Wq (mLc it vs t c el δ) P = Wq (it δ) fun ds δ1 => (ds.length ≤ 100000 ∧ lightS δ1 vs = true) ∧ Wq (lcL vs t c el ds δ1) P := by
  unfold mLc
  rw [qwp_bnd]
  refine Wq.ext fun ds δ1 => ?_
  rw [qwp_ite]
theorem qwp_lcD {l : M (List Dt)} {P : Dt → List Sv → Prop} : Wq (mLcD l δ) P = Wq (l δ) fun ds δ1 => P (.lst ds) δ1 := id qwp_bnd
theorem qwp_lcO {l : M (List Dt)} {P : Sv → List Sv → Prop} : Wq (mLcO l δ) P = Wq (l δ) fun ds δ1 => P (.lst ds) δ1 := id qwp_bnd
theorem qwp_yes {P : Bool → List Sv → Prop} : Wq (mYes δ) P = P true δ := id rfl
theorem qlc0 {vs : List Nat} {t : Tgt} {c : M Bool} {el : M Dt} {P : List Dt → List Sv → Prop} : Wq (lcL vs t c el [] δ) P = P [] δ := id rfl
theorem qlc1 {vs : List Nat} {t : Tgt} {c : M Bool} {el : M Dt} {d : Dt} {ds : List Dt} {P : List Dt → List Sv → Prop} : Wq (lcL vs t c el (d :: ds) δ) P = Wq (t d (wipeS δ vs)) fun _ δ1 => Wq (c δ1) fun b δ2 =>
    Br b (Wq (el δ2) fun y δ3 => Wq (lcL vs t c el ds (restS δ3 δ vs)) fun ys δ4 => P (y :: ys) δ4) (Wq (lcL vs t c el ds (restS δ2 δ vs)) P) := by
  show Wq ((noX (t d (wipeS δ vs))).bnd _) P = _
  rw [qwp_bnd, qwp_noX]
  refine Wq.ext fun x δ1 => ?_
  rw [qwp_bnd, qwp_noX]
  refine Wq.ext fun b δ2 => ?_
  rw [qwp_if]
  cases b
  · rfl
  · simp only [if_true, br_t]
    rw [qwp_bnd, qwp_noX]
    refine Wq.ext fun y δ3 => ?_
    rw [qwp_bnd]
    rfl
/-- a comprehension with an invariant: the places walked, the values so far -/
theorem qlc_at {vs : List Nat} {t : Tgt} {c : M Bool} {el : M Dt} {ds : List Dt} {P : List Dt → List Sv → Prop} (I : Nat → List Dt → List Sv → Prop) (h0 : I 0 [] δ)
    (hs : ∀ i d ys δ, ds[i]? = some d → I i ys δ → Wq (t d (wipeS δ vs)) fun _ δ1 => Wq (c δ1) fun b δ2 => Br b (Wq (el δ2) fun y δ3 => I (i + 1) (ys ++ [y]) (restS δ3 δ vs)) (I (i + 1) ys (restS δ2 δ vs)))
    (hP : ∀ ys δ, I ds.length ys δ → P ys δ) : Wq (lcL vs t c el ds δ) P := by
  suffices H : ∀ (es : List Dt) (n : Nat) (zs : List Dt) (δ : List Sv), es = ds.drop n → n + es.length = ds.length → I n zs δ → Wq (lcL vs t c el es δ) fun ys δ' => P (zs ++ ys) δ' from H ds 0 [] δ rfl (by omega) h0
  intro es
  induction es with
  | nil =>
    intro n zs δ e hn hI
    simp only [List.length_nil, Nat.add_zero] at hn
    subst hn
    show P (zs ++ []) δ
    rw [List.append_nil]
    exact hP zs δ hI
  | cons d es ih =>
    intro n zs δ e hn hI
    have hd : ds[n]? = some d := by
      have := congrArg List.head? e
      simpa [List.head?_drop] using this.symm
    have e2 : es = ds.drop (n + 1) := by
      have := congrArg List.tail e
      simpa [List.tail_drop] using this
    have hn2 : n + 1 + es.length = ds.length := by simp at hn; omega
    rw [qlc1]
    refine (hs n d zs δ hd hI).imp fun _ δ1 h1 => h1.imp fun b δ2 h2 => ?_
    cases b with
    | true =>
      rw [br_t] at h2 ⊢
      refine h2.imp fun y δ3 h3 => (ih (n + 1) (zs ++ [y]) _ e2 hn2 h3).imp fun ys δ4 h4 => ?_
      rw [List.append_assoc] at h4
      exact h4
    | false =>
      rw [br_f] at h2 ⊢
      exact ih (n + 1) zs _ e2 hn2 h2
/-- with no test: as many values as places -/
theorem qlc_map {vs : List Nat} {t : Tgt} {el : M Dt} {ds : List Dt} {P : List Dt → List Sv → Prop} (I : Nat → List Dt → List Sv → Prop) (h0 : I 0 [] δ)
    (hs : ∀ i d ys δ, ds[i]? = some d → I i ys δ → Wq (t d (wipeS δ vs)) fun _ δ1 => Wq (el δ1) fun y δ3 => I (i + 1) (ys ++ [y]) (restS δ3 δ vs))
    (hP : ∀ ys δ, I ds.length ys δ → P ys δ) : Wq (lcL vs t mYes el ds δ) P :=
  qlc_at I h0 (fun i d ys δ hd hI => (hs i d ys δ hd hI).imp fun _ δ1 h => h) hP
theorem qwp_lrng {m : M Dt} {P : Dt → List Sv → Prop} : Wq (mLRng m δ) P = Wq (m δ) fun d δ1 => Wo (rngD d) fun ds => P (.lst ds) δ1 := by
  unfold mLRng
  rw [qwp_bnd]
  refine Wq.ext fun x δ1 => ?_
  rw [qwp_bnd, qwp_opt]
  rfl
theorem qwp_trng {m : M Dt} {P : Dt → List Sv → Prop} : Wq (mTRng m δ) P = Wq (m δ) fun d δ1 => Wo (rngD d) fun ds => P (.tup ds) δ1 := by
  unfold mTRng
  rw [qwp_bnd]
  refine Wq.ext fun x δ1 => ?_
  rw [qwp_bnd, qwp_opt]
  rfl
theorem qwp_lrngO {m : M Dt} {P : Sv → List Sv → Prop} : Wq (mLRngO m δ) P = Wq (m δ) fun d δ1 => Wo (rngD d) fun ds => P (.lst ds) δ1 := by
  unfold mLRngO
  rw [qwp_bnd]
  refine Wq.ext fun x δ1 => ?_
  rw [qwp_bnd, qwp_opt]
  rfl
theorem qwp_lstOf {g : Rg} {P : Sv → List Sv → Prop} : Wq (mLstOf g δ) P = Wq (g.run δ) fun x δ1 => Wo (rv δ1 x) fun d => atS (fun ds => P (.lst ds) δ1) d := by
  unfold mLstOf
  rw [qwp_bnd]
  refine Wq.ext fun x δ1 => ?_
  rw [qwp_bnd, qwp_opt]
  refine Wo.ext fun d => ?_
  cases d <;> rfl
theorem qforK_nx {t : Tgt} {b : M Fl} {ds : List Dt} {P : Fl → List Sv → Prop} : forK t b ds P .nx δ = Wq (forL t b ds δ) P := id rfl
theorem qforK_ct {t : Tgt} {b : M Fl} {ds : List Dt} {P : Fl → List Sv → Prop} : forK t b ds P .ct δ = Wq (forL t b ds δ) P := id rfl
theorem forK_bk {t : Tgt} {b : M Fl} {ds : List Dt} {P : Fl → List Sv → Prop} : forK t b ds P .bk δ = P .nx δ := id rfl
theorem forK_rt {t : Tgt} {b : M Fl} {ds : List Dt} {P : Fl → List Sv → Prop} {s : Sv} : forK t b ds P (.rt s) δ = P (.rt s) δ := id rfl
/-! instances -/
def atX (C : Addr) (P : List (Str × Dt) → Prop) (s : Sv) (outs : List Sv) (_ : Hid P := .mk) : Prop := match s, outs with
  | .dat .non, .ins C' fs :: _ => C' = C ∧ P fs
  | _, _ => False
theorem atX_ok {C C' : Addr} {P : List (Str × Dt) → Prop} {fs : List (Str × Dt)} {os : List Sv} : atX C P (.dat .non) (.ins C' fs :: os) = (C' = C ∧ P fs) := id rfl
theorem qmake_wp {C : Addr} {r : Res Sv} {P : Dt → List Sv → Prop} : Wq (match r with
  | .ok (.dat .non) (.ins C' fs :: _) => if C' = C then .ok (.obj C fs) δ else .bad
  | _ => .bad) P = Wq r (fun s os => atX C (fun fs => P (.obj C fs) δ) s os) := by
  cases r with
  | exc x δ => rfl
  | bad => rfl
  | ok s outs =>
    cases s with
    | dat d =>
      cases d <;> try rfl
      cases outs with
      | nil => rfl
      | cons o os =>
        cases o <;> try rfl
        show Wq (if _ then _ else _) P = _
        rw [qwp_ite]
        rfl
    | un => rfl
    | lst ds => rfl
    | dic ds => rfl
    | ins C fs => rfl
theorem qwp_make {C : Addr} {c : List Sv → Res Sv} {ms : List (M Dt)} {P : Dt → List Sv → Prop} : Wq (mMake C c ms δ) P = Wq (mAll ms δ) fun ds δ1 => Wq (c (.ins C [] :: ds.map .dat)) (fun s os => atX C (fun fs => P (.obj C fs) δ1) s os) := by
  unfold mMake
  rw [qwp_bnd]
  refine Wq.ext fun ds δ1 => ?_
  exact qmake_wp
theorem qwp_makeK {C : Addr} {c : List Sv → Res Sv} {ms ks : List (M Dt)} {gD : List Dt → List Dt → List Dt} {P : Dt → List Sv → Prop} : Wq (mMakeK C c ms ks gD δ) P = Wq (mAll ms δ) fun ds δ1 => Wq (mAll ks δ1) fun es δ2 => Wq (c (.ins C [] :: (gD ds es).map .dat)) (fun s os => atX C (fun fs => P (.obj C fs) δ2) s os) := by
  unfold mMakeK
  rw [qwp_bnd]
  refine Wq.ext fun ds δ1 => ?_
  rw [qwp_bnd]
  refine Wq.ext fun es δ2 => ?_
  exact qmake_wp
def atJ (cs : List Addr) (P : Addr → List (Str × Dt) → Prop) (x : Option Sv) (_ : Hid P := .mk) : Prop := match x with
  | some (.ins C fs) => (cs.contains C = true ∧ fs.length < 1000) ∧ P C fs
  | _ => False
theorem atJ_ins {cs : List Addr} {P : Addr → List (Str × Dt) → Prop} {C : Addr} {fs : List (Str × Dt)} : atJ cs P (some (.ins C fs)) = ((cs.contains C = true ∧ fs.length < 1000) ∧ P C fs) := id rfl
theorem qwp_fldSet {cs : List Addr} {i : Nat} {f : Str} {m : M Dt} {P : Fl → List Sv → Prop} : Wq (mFldSet cs i f m δ) P = Wq (m δ) fun d δ1 => atJ cs (fun C fs => P .nx (δ1.set i (.ins C (putD f d fs)))) δ1[i]? := by
  unfold mFldSet
  rw [qwp_bnd]
  refine Wq.ext fun d δ1 => ?_
  generalize δ1[i]? = o
  cases o with
  | none => rfl
  | some s =>
    cases s <;> try rfl
    show Wq (if _ then _ else _) P = _
    rw [qwp_ite]
    rfl
theorem qwp_meth {C : Addr} {nm : Str} {c : List Sv → Res Sv} {o : M Dt} {ags : List Ag} {P : Sv → List Sv → Prop} : Wq (mMeth C nm c o ags δ) P = Wq (o δ) fun d δ1 => match d with
    | .obj C' fs => (C' = C ∧ fs.lookup nm = none) ∧ Wq (mAgs ags δ1) fun ds δ2 => Wq (c (.dat (.obj C' fs) :: pickA δ2 ags ds)) fun s outs => P s (backS δ2 (none :: ags.map Ag.kind) outs)
    | _ => False := by
  unfold mMeth
  rw [qwp_bnd]
  refine Wq.ext fun d δ1 => ?_
  cases d <;> try rfl
  simp only
  rw [qwp_ite, qwp_bnd]
  refine congrArg (And _) (Wq.ext fun ds δ2 => ?_)
  rename_i fs
  cases c _ <;> rfl
def atStr (P : Str → Prop) (x : Dt) (_ : Hid P := .mk) : Prop := match x with
  | .str z => P z
  | _ => False
theorem atStr_str {z : Str} {P : Str → Prop} : atStr P (.str z) = P z := id rfl
theorem qwp_js0 {acc : Str} {P : Str → List Sv → Prop} : Wq (mJs [] acc δ) P = P acc δ := id rfl
theorem qwp_js1 {m : M Dt} {ms : List (M Dt)} {acc : Str} {P : Str → List Sv → Prop} : Wq (mJs (m :: ms) acc δ) P = Wq (m δ) fun d δ1 => atStr (fun y => (acc ++ y).length ≤ 1000000 ∧ Wq (mJs ms (acc ++ y) δ1) P) d := by
  show Wq ((m δ).bnd _) P = _
  rw [qwp_bnd]
  refine Wq.ext fun d δ1 => ?_
  cases d <;> try rfl
  show Wq (if _ then _ else _) P = _
  rw [qwp_ite]
  rfl
theorem qwp_fstr {ms : List (M Dt)} {P : Dt → List Sv → Prop} : Wq (mFstr ms δ) P = Wq (mJs ms Str.empty δ) fun z δ1 => P (.str z) δ1 := id qwp_bnd
theorem qwp_join {a b : M Dt} {P : Dt → List Sv → Prop} : Wq (mJoin a b δ) P = Wq (a δ) fun x δ1 => atStr (fun s => Wq (b δ1) fun y δ2 => Wo (joinD (.str s) y) fun z => P z δ2) x := by
  unfold mJoin
  rw [qwp_bnd]
  refine Wq.ext fun d δ1 => ?_
  cases d <;> try rfl
  show Wq ((b δ1).bnd _) P = _
  rw [qwp_bnd]
  refine Wq.ext fun y δ2 => ?_
  rw [qwp_opt]
end
theorem atI_0 {α : Type} {x : α} {l : List α} : atI (x :: l) 0 = some x := by simp [atI, ixN]
theorem atI_1 {α : Type} {x y : α} {l : List α} : atI (x :: y :: l) 1 = some y := by
  unfold atI ixN
  rw [if_pos (by decide), if_pos (by simp only [List.length_cons]; omega)]
  rfl
theorem atI_2 {α : Type} {x y z : α} {l : List α} : atI (x :: y :: z :: l) 2 = some z := by
  unfold atI ixN
  rw [if_pos (by decide), if_pos (by simp only [List.length_cons]; omega)]
  rfl
theorem atI_3 {α : Type} {x y z u : α} {l : List α} : atI (x :: y :: z :: u :: l) 3 = some u := by
  unfold atI ixN
  rw [if_pos (by decide), if_pos (by simp only [List.length_cons]; omega)]
  rfl
theorem atI_4 {α : Type} {x y z u v : α} {l : List α} : atI (x :: y :: z :: u :: v :: l) 4 = some v := by
  unfold atI ixN
  rw [if_pos (by decide), if_pos (by simp only [List.length_cons]; omega)]
  rfl
theorem atI_5 {α : Type} {x y z u v w : α} {l : List α} : atI (x :: y :: z :: u :: v :: w :: l) 5 = some w := by
  unfold atI ixN
  rw [if_pos (by decide), if_pos (by simp only [List.length_cons]; omega)]
  rfl
theorem atK {α : Type} {xs : List α} {k : Nat} (h : k < xs.length) : atI xs (k : Int) = some xs[k] := by
  unfold atI ixN
  rw [if_pos (by omega), if_pos (by omega)]
  simp [h]
theorem ixN_0 {n : Nat} : ixN (n + 1) 0 = some 0 := by
  unfold ixN
  rw [if_pos (by decide), if_pos (by omega)]
  rfl
theorem ixN_1 {n : Nat} : ixN (n + 1 + 1) 1 = some 1 := by
  unfold ixN
  rw [if_pos (by decide), if_pos (by omega)]
  rfl
theorem ixN_2 {n : Nat} : ixN (n + 1 + 1 + 1) 2 = some 2 := by
  unfold ixN
  rw [if_pos (by decide), if_pos (by omega)]
  rfl
theorem ixN_30 : ixN 3 0 = some 0 := id rfl
theorem ixN_31 : ixN 3 1 = some 1 := id rfl
theorem ixN_32 : ixN 3 2 = some 2 := id rfl
theorem eqB_int {i j : Int} : eqB (.int i) (.int j) = some (decide (i = j)) := by
  simp [eqB, toPy, PyData.depth, PyData.eqv]
  rw [Bool.eq_iff_iff]
  simp
theorem ixD_lst {xs : List Dt} {i : Int} : ixD (.lst xs) (.int i) = atI xs i := id rfl
theorem ixD_tup {xs : List Dt} {i : Int} : ixD (.tup xs) (.int i) = atI xs i := id rfl
theorem ixD_scr {xs : List Int} {i : Int} : ixD (.scr xs) (.int i) = (atI xs i).map Dt.int := id rfl
theorem cdiv_lit {i j : Int} (h : 0 < j) (h2 : j.natAbs.log2 < 9000) : CDivW i j := ⟨h, h2⟩
theorem cpow_lit {i j : Int} (h : 0 ≤ j) (h2 : j ≤ 1000000) (h3 : i.natAbs < 2 ^ 64) : CPow i j := ⟨h, h2, h3⟩
theorem cmul_l {i j : Int} (h1 : -(2 ^ 64) < i) (h2 : i < 2 ^ 64) : CMul i j ∨ CMulW i j := .inl (.inl ⟨h1, h2⟩)
theorem cmul_r {i j : Int} (h1 : -(2 ^ 64) < j) (h2 : j < 2 ^ 64) : CMul i j ∨ CMulW i j := .inl (.inr ⟨h1, h2⟩)
end Qm

set_option Elab.async false
set_option linter.all false
set_option maxRecDepth 100000
set_option maxHeartbeats 4000000
namespace Qm
open PySem PySem.Spec PyProof.Rows L2 Pd
/-- the same, closed to Lean's own unfolding -/
@[irreducible] def Wp {α : Type} (r : Res α) (P : α → List Sv → Prop) (_ : Hid P := .mk) : Prop := Wq r P
theorem wp_def : @Wp = @Wq := by
  funext α r P u
  unfold Wp
  cases u
  rfl
section
variable {α β : Type} {P : α → List Sv → Prop} {δ : List Sv}
theorem Wp.ext {r : Res α} {P Q : α → List Sv → Prop} (h : ∀ a δ, P a δ = Q a δ) : Wp r P = Wp r Q := by
  rw [wp_def] at *; exact Wq.ext h
theorem Wp.get {r : Res α} (h : Wp r P) : ∃ a δ, r = .ok a δ ∧ P a δ := by
  rw [wp_def] at *; exact Wq.get h
theorem Wp.imp {r : Res α} {Q : α → List Sv → Prop} (h : Wp r P) (k : ∀ a δ, P a δ → Q a δ) : Wp r Q := by
  rw [wp_def] at *; exact Wq.imp h k
theorem Wp.of {r : Res α} {a : α} (e : r = .ok a δ) (h : P a δ) : Wp r P := by
  rw [wp_def] at *; exact Wq.of e h
theorem wp_ok {a : α} : Wp (.ok a δ) P = P a δ := by
  rw [wp_def]; exact qwp_ok
theorem wp_bad : Wp (.bad : Res α) P = False := by
  rw [wp_def]; exact qwp_bad
theorem wp_bnd {r : Res β} {f : β → List Sv → Res α} : Wp (r.bnd f) P = Wp r fun b δ1 => Wp (f b δ1) P := by
  rw [wp_def]; exact qwp_bnd
theorem wp_noX {r : Res α} : Wp (noX r) P = Wp r P := by
  rw [wp_def]; exact qwp_noX
theorem wp_opt {o : Option α} : Wp (opt o δ) P = Wo o fun a => P a δ := by
  rw [wp_def]; exact qwp_opt
theorem wp_ite {c : Prop} [Decidable c] {r : Res α} : Wp (if c then r else .bad) P = (c ∧ Wp r P) := by
  rw [wp_def]; exact qwp_ite
theorem wp_if {c : Prop} [Decidable c] {r r' : Res α} : Wp (if c then r else r') P = if c then Wp r P else Wp r' P := by
  rw [wp_def]; exact qwp_if
theorem wp_mC {d : Dt} {P : Dt → List Sv → Prop} : Wp (mC d δ) P = P d δ := by
  rw [wp_def]; exact qwp_mC
theorem wp_var {i : Nat} {P : Dt → List Sv → Prop} : Wp (mVar i δ) P = atV P δ i δ[i]? := by
  rw [wp_def]; exact qwp_var
theorem wp_rg {g : M Dt} {P : Dt ⊕ Nat → List Sv → Prop} : Wp ((Rg.ex g).run δ) P = Wp (g δ) fun d δ1 => P (.inl d) δ1 := by
  rw [wp_def]; exact qwp_rg
theorem wp_pk {i : Nat} {P : Dt ⊕ Nat → List Sv → Prop} : Wp ((Rg.pk i).run δ) P = atP P δ i δ[i]? := by
  rw [wp_def]; exact qwp_pk
theorem wp_op {f : Dt → Dt → Option Dt} {a b : Rg} {P : Dt → List Sv → Prop} : Wp (mOp f a b δ) P = Wp (a.run δ) fun x δ1 => Wp (b.run δ1) fun y δ2 => Wo (rv δ2 x) fun u => Wo (rv δ2 y) fun v => Wo (f u v) fun z => P z δ2 := by
  rw [wp_def]; exact qwp_op
theorem wp_cb {f : Dt → Option Dt} {a : Rg} {P : Dt → List Sv → Prop} : Wp (mCB f a δ) P = Wp (a.run δ) fun x δ1 => Wo (rv δ1 x) fun u => Wo (f u) fun z => P z δ1 := by
  rw [wp_def]; exact qwp_cb
theorem wp_un {f : Dt → Option Dt} {a : M Dt} {P : Dt → List Sv → Prop} : Wp (mUn f a δ) P = Wp (a δ) fun u δ1 => Wo (f u) fun z => P z δ1 := by
  rw [wp_def]; exact qwp_un
theorem wp_mBl {r : Res Dt} {P : Bool → List Sv → Prop} : Wp (mBl r) P = Wp r fun d δ1 => atB (fun b => P b δ1) d := by
  rw [wp_def]; exact qwp_mBl
theorem wp_chain {f f' : Dt → Dt → Option Dt} {a b c : Rg} {P : Dt → List Sv → Prop} : Wp (mChain f f' a b c δ) P = Wp (a.run δ) fun x δ1 => Wp (b.run δ1) fun y δ2 => Wo (rv δ2 x) fun u => Wo (rv δ2 y) fun v => Wo (f u v) fun z => atB (fun t => Br t (Wp (c.run δ2) fun z δ3 => Wo (rv δ3 y) fun u => Wo (rv δ3 z) fun v => Wo (f' u v) fun z => P z δ3) (P (.bl false) δ2)) z := by
  rw [wp_def]; exact qwp_chain
theorem wp_isN {b : Bool} {m : M Dt} {P : Dt → List Sv → Prop} : Wp (mIsN b m δ) P = Wp (m δ) fun d δ1 => Wo (isN d) fun t => P (.bl (if b then t else !t)) δ1 := by
  rw [wp_def]; exact qwp_isN
theorem wp_and {a b : M Bool} {P : Bool → List Sv → Prop} : Wp (mAnd a b δ) P = Wp (a δ) fun t δ1 => Br t (Wp (b δ1) P) (P false δ1) := by
  rw [wp_def]; exact qwp_and
theorem wp_or {a b : M Bool} {P : Bool → List Sv → Prop} : Wp (mOr a b δ) P = Wp (a δ) fun t δ1 => Br t (P true δ1) (Wp (b δ1) P) := by
  rw [wp_def]; exact qwp_or
theorem wp_not {a : M Bool} {P : Bool → List Sv → Prop} : Wp (mNot a δ) P = Wp (a δ) fun t δ1 => P (!t) δ1 := by
  rw [wp_def]; exact qwp_not
theorem wp_andV {a b : M Dt} {P : Dt → List Sv → Prop} : Wp (mAndV a b δ) P = Wp (a δ) fun d δ1 => atB (fun t => Br t (Wp (b δ1) P) (P (.bl false) δ1)) d := by
  rw [wp_def]; exact qwp_andV
theorem wp_orV {a b : M Dt} {P : Dt → List Sv → Prop} : Wp (mOrV a b δ) P = Wp (a δ) fun d δ1 => atB (fun t => Br t (P (.bl true) δ1) (Wp (b δ1) P)) d := by
  rw [wp_def]; exact qwp_orV
theorem wp_notV {a : M Dt} {P : Dt → List Sv → Prop} : Wp (mNotV a δ) P = Wp (a δ) fun d δ1 => atB (fun t => P (.bl (!t)) δ1) d := by
  rw [wp_def]; exact qwp_notV
theorem wp_mIf {t : M Bool} {a b : M α} : Wp (mIf t a b δ) P = Wp (t δ) fun c δ1 => Br c (Wp (a δ1) P) (Wp (b δ1) P) := by
  rw [wp_def]; exact qwp_mIf
theorem wp_all0 {P : List Dt → List Sv → Prop} : Wp (mAll [] δ) P = P [] δ := by
  rw [wp_def]; exact qwp_all0
theorem wp_all1 {m : M Dt} {ms : List (M Dt)} {P : List Dt → List Sv → Prop} : Wp (mAll (m :: ms) δ) P = Wp (m δ) fun d δ1 => Wp (mAll ms δ1) fun ds δ2 => P (d :: ds) δ2 := by
  rw [wp_def]; exact qwp_all1
theorem wp_tup {ms : List (M Dt)} {P : Dt → List Sv → Prop} : Wp (mTup ms δ) P = Wp (mAll ms δ) fun ds δ1 => ds.length ≤ 100000 ∧ P (.tup ds) δ1 := by
  rw [wp_def]; exact qwp_tup
theorem wp_lst {ms : List (M Dt)} {P : Dt → List Sv → Prop} : Wp (mLst ms δ) P = Wp (mAll ms δ) fun ds δ1 => ds.length ≤ 100000 ∧ P (.lst ds) δ1 := by
  rw [wp_def]; exact qwp_lst
theorem wp_lstN {ms : List (M Dt)} {P : Sv → List Sv → Prop} : Wp (mLstN ms δ) P = Wp (mAll ms δ) fun ds δ1 => ds.length ≤ 100000 ∧ P (.lst ds) δ1 := by
  rw [wp_def]; exact qwp_lstN
theorem wp_dv {m : M Dt} {P : Sv → List Sv → Prop} : Wp (mDv m δ) P = Wp (m δ) fun d δ1 => P (.dat d) δ1 := by
  rw [wp_def]; exact qwp_dv
theorem wp_fz {m : M Sv} {P : Dt → List Sv → Prop} : Wp (mFz m δ) P = Wp (m δ) fun s δ1 => atF (fun d => P d δ1) s := by
  rw [wp_def]; exact qwp_fz
theorem wp_part0 {P : Option Int → List Sv → Prop} : Wp (mPart none δ) P = P none δ := by
  rw [wp_def]; exact qwp_part0
theorem wp_part1 {m : M Dt} {P : Option Int → List Sv → Prop} : Wp (mPart (some m) δ) P = Wp (m δ) fun d δ1 => atO P δ1 d := by
  rw [wp_def]; exact qwp_part1
theorem wp_sl {a : Rg} {lo hi : Option (M Dt)} {P : Dt → List Sv → Prop} : Wp (mSl a lo hi δ) P = Wp (a.run δ) fun x δ1 => Wp (mPart lo δ1) fun l δ2 => Wp (mPart hi δ2) fun h δ3 => Wo (rv δ3 x) fun d => Wo (slD d l h) fun z => P z δ3 := by
  rw [wp_def]; exact qwp_sl
theorem wp_fld {cs : List Addr} {f : Str} {m : M Dt} {P : Dt → List Sv → Prop} : Wp (mFld cs f m δ) P = Wp (m δ) fun d δ1 => Wo (fldD cs f d) fun z => P z δ1 := by
  rw [wp_def]; exact qwp_fld
theorem wp_tgN {i : Nat} {d : Dt} {P : Unit → List Sv → Prop} : Wp (tgN i d δ) P = P () (δ.set i (.dat d)) := by
  rw [wp_def]; exact qwp_tgN
theorem wp_tgT {n : Nat} {ts : Tgts} {ds : List Dt} {P : Unit → List Sv → Prop} : Wp (tgT n ts (.tup ds) δ) P = (ds.length = n ∧ Wp (ts ds δ) P) := by
  rw [wp_def]; exact qwp_tgT
theorem wp_tgNil {P : Unit → List Sv → Prop} : Wp (tgNil [] δ) P = P () δ := by
  rw [wp_def]; exact qwp_tgNil
theorem wp_tgCons {t : Tgt} {ts : Tgts} {d : Dt} {ds : List Dt} {P : Unit → List Sv → Prop} : Wp (tgCons t ts (d :: ds) δ) P = Wp (t d δ) fun _ δ1 => Wp (ts ds δ1) P := by
  rw [wp_def]; exact qwp_tgCons
theorem seqK_nx {b : M Fl} {P : Fl → List Sv → Prop} : seqK b P .nx δ = Wp (b δ) P := by
  rw [wp_def]; exact qseqK_nx
theorem wp_seq {a b : M Fl} {P : Fl → List Sv → Prop} : Wp (mSeq a b δ) P = Wp (a δ) (fun fl δ1 => seqK b P fl δ1) := by
  rw [wp_def]; exact qwp_seq
theorem wp_nx {P : Fl → List Sv → Prop} : Wp (mNx δ) P = P .nx δ := by
  rw [wp_def]; exact qwp_nx
theorem wp_bk {P : Fl → List Sv → Prop} : Wp (mBk δ) P = P .bk δ := by
  rw [wp_def]; exact qwp_bk
theorem wp_ct {P : Fl → List Sv → Prop} : Wp (mCt δ) P = P .ct δ := by
  rw [wp_def]; exact qwp_ct
theorem wp_mBad {P : Fl → List Sv → Prop} : Wp (mBad δ) P = False := by
  rw [wp_def]; exact qwp_mBad
theorem wp_mNo {P : α → List Sv → Prop} : Wp (mNo δ) P = False := by
  rw [wp_def]; exact qwp_mNo
theorem wp_ret {m : M Dt} {P : Fl → List Sv → Prop} : Wp (mRet m δ) P = Wp (m δ) fun d δ1 => P (.rt (.dat d)) δ1 := by
  rw [wp_def]; exact qwp_ret
theorem wp_retO {m : M Sv} {P : Fl → List Sv → Prop} : Wp (mRetO m δ) P = Wp (m δ) fun d δ1 => P (.rt d) δ1 := by
  rw [wp_def]; exact qwp_retO
theorem wp_retN {P : Fl → List Sv → Prop} : Wp (mRetN δ) P = P (.rt (.dat .non)) δ := by
  rw [wp_def]; exact qwp_retN
theorem wp_drop {m : M Dt} {P : Fl → List Sv → Prop} : Wp (mDrop m δ) P = Wp (m δ) fun _ δ1 => P .nx δ1 := by
  rw [wp_def]; exact qwp_drop
theorem wp_asg {i : Nat} {m : M Dt} {P : Fl → List Sv → Prop} : Wp (mAsg i m δ) P = Wp (m δ) fun d δ1 => P .nx (δ1.set i (.dat d)) := by
  rw [wp_def]; exact qwp_asg
theorem wp_asgO {i : Nat} {m : M Sv} {P : Fl → List Sv → Prop} : Wp (mAsgO i m δ) P = Wp (m δ) fun d δ1 => P .nx (δ1.set i d) := by
  rw [wp_def]; exact qwp_asgO
theorem wp_asgT {t : Tgt} {m : M Dt} {P : Fl → List Sv → Prop} : Wp (mAsgT t m δ) P = Wp (m δ) fun d δ1 => Wp (t d δ1) fun _ δ2 => P .nx δ2 := by
  rw [wp_def]; exact qwp_asgT
theorem wp_par {i j : Nat} {a b : M Sv} {P : Fl → List Sv → Prop} : Wp (mPar i j a b δ) P = Wp (a δ) fun s δ1 => Wp (b δ1) fun t δ2 => P .nx ((δ2.set i s).set j t) := by
  rw [wp_def]; exact qwp_par
theorem wp_par3 {i j l : Nat} {a b c : M Dt} {P : Fl → List Sv → Prop} : Wp (mPar3 i j l a b c δ) P = Wp (a δ) fun x δ1 => Wp (b δ1) fun y δ2 => Wp (c δ2) fun z δ3 => P .nx (((δ3.set i (.dat x)).set j (.dat y)).set l (.dat z)) := by
  rw [wp_def]; exact qwp_par3
theorem wp_app {i : Nat} {m : M Dt} {P : Dt → List Sv → Prop} : Wp (mApp i m δ) P = (isL δ[i]? = true ∧ Wp (m δ) fun d δ1 => atL (fun ds => ds.length < 100000 ∧ P .non (δ1.set i (.lst (ds ++ [d])))) δ1[i]?) := by
  rw [wp_def]; exact qwp_app
theorem wp_pop {i : Nat} {m : M Dt} {P : Dt → List Sv → Prop} : Wp (mPop i m δ) P = (isL δ[i]? = true ∧ Wp (m δ) fun d δ1 => atI2 (fun k => atL (fun ds => (0 ≤ k ∧ k < 2 ^ 62) ∧ Wo ds[k.toNat]? fun y => P y (δ1.set i (.lst (ds.eraseIdx k.toNat)))) δ1[i]?) d) := by
  rw [wp_def]; exact qwp_pop
theorem wp_tgSub {i : Nat} {m : M Dt} {d : Dt} {P : Unit → List Sv → Prop} : Wp (tgSub i m d δ) P = (isL δ[i]? = true ∧ Wp (m δ) fun k δ1 => atI2 (fun k => atL (fun ds => Wo (ixN ds.length k) fun j => P () (δ1.set i (.lst (ds.set j d)))) δ1[i]?) k) := by
  rw [wp_def]; exact qwp_tgSub
theorem wp_call {c : List Sv → Res Sv} {ags : List Ag} {P : Sv → List Sv → Prop} : Wp (mCall c ags δ) P = Wp (mAgs ags δ) fun ds δ1 => Wp (c (pickA δ1 ags ds)) fun s outs => P s (backS δ1 (ags.map Ag.kind) outs) := by
  rw [wp_def]; exact qwp_call
theorem wp_ags0 {P : List Dt → List Sv → Prop} : Wp (mAgs [] δ) P = P [] δ := by
  rw [wp_def]; exact qwp_ags0
theorem wp_agsE {m : M Dt} {as : List Ag} {P : List Dt → List Sv → Prop} : Wp (mAgs (.ex m :: as) δ) P = Wp (m δ) fun d δ1 => Wp (mAgs as δ1) fun ds δ2 => P (d :: ds) δ2 := by
  rw [wp_def]; exact qwp_agsE
theorem wp_agsI {i : Nat} {as : List Ag} {P : List Dt → List Sv → Prop} : Wp (mAgs (.io i :: as) δ) P = (isOwn δ[i]? = true ∧ Wp (mAgs as δ) fun ds δ2 => P (.non :: ds) δ2) := by
  rw [wp_def]; exact qwp_agsI
theorem wp_fn {N n q : Nat} {m : M Fl} {args : List Sv} {P : Sv → List Sv → Prop} : Wp (fnOf N n q m args) P = Wp (m (args ++ List.replicate (N - n) .un)) (fun fl δ1 => fnK q P fl δ1) := by
  rw [wp_def]; exact qwp_fn
theorem wp_callA {i : Nat} {S : Addr → Option (List Sv → Res Sv)} {ags : List Ag} {f : Addr} {c : List Sv → Res Sv} {P : Sv → List Sv → Prop} (h : δ[i]? = some (.dat (.raw (.ref f)))) (hc : S f = some c) : Wp (mCallA i S ags δ) P = Wp (mCall c ags δ) P := by
  rw [wp_def] at *; exact qwp_callA h hc
theorem wp_for {it : M (List Dt)} {t : Tgt} {b : M Fl} {P : Fl → List Sv → Prop} : Wp (mFor it t b δ) P = Wp (it δ) fun ds δ1 => Wp (forL t b ds δ1) P := by
  rw [wp_def]; exact qwp_for
theorem for0 {t : Tgt} {b : M Fl} {P : Fl → List Sv → Prop} : Wp (forL t b [] δ) P = P .nx δ := by
  rw [wp_def]; exact qfor0
theorem for1 {t : Tgt} {b : M Fl} {d : Dt} {ds : List Dt} {P : Fl → List Sv → Prop} : Wp (forL t b (d :: ds) δ) P = Wp (t d δ) fun _ δ1 => Wp (b δ1) (fun fl δ2 => forK t b ds P fl δ2) := by
  rw [wp_def]; exact qfor1
theorem for_at {t : Tgt} {b : M Fl} {ds : List Dt} {P : Fl → List Sv → Prop} (I : Nat → List Sv → Prop) (h0 : I 0 δ) (hs : ∀ i d δ, ds[i]? = some d → I i δ → Wp (t d δ) fun _ δ1 => Wp (b δ1) (fun fl δ2 => rndK (I (i + 1)) P fl δ2)) (hP : ∀ δ, I ds.length δ → P .nx δ) : Wp (forL t b ds δ) P := by
  rw [wp_def] at *; exact qfor_at I h0 hs hP
theorem wp_iter {m : M Dt} {P : List Dt → List Sv → Prop} : Wp (mIter m δ) P = Wp (m δ) fun d δ1 => Wo (seqD d) fun ds => P ds δ1 := by
  rw [wp_def]; exact qwp_iter
theorem wp_rng1 {m : M Dt} {P : List Dt → List Sv → Prop} : Wp (mRng1 m δ) P = Wp (m δ) fun d δ1 => atI2 (fun j => (-(2 ^ 62) ≤ j ∧ j < 2 ^ 62) ∧ P (upto 0 j.toNat) δ1) d := by
  rw [wp_def]; exact qwp_rng1
theorem wp_rng2 {m1 m2 : M Dt} {P : List Dt → List Sv → Prop} : Wp (mRng2 m1 m2 δ) P = Wp (m1 δ) fun d δ1 => Wp (m2 δ1) fun e δ2 => atI2 (fun i => atI2 (fun j => ((-(2 ^ 62) ≤ i ∧ i < 2 ^ 62) ∧ -(2 ^ 62) ≤ j ∧ j < 2 ^ 62) ∧ P (upto i (j - i).toNat) δ2) e) d := by
  rw [wp_def]; exact qwp_rng2
theorem wp_enum {m : M Dt} {P : List Dt → List Sv → Prop} : Wp (mEnum m δ) P = Wp (m δ) fun d δ1 => atS (fun ds => P (enumD ds) δ1) d := by
  rw [wp_def]; exact qwp_enum
theorem wp_lc {it : M (List Dt)} {vs : List Nat} {t : Tgt} {c : M Bool} {el : M Dt} {P : List Dt → List Sv → Prop} : Wp (mLc it vs t c el δ) P = Wp (it δ) fun ds δ1 => (ds.length ≤ 100000 ∧ lightS δ1 vs = true) ∧ Wp (lcL vs t c el ds δ1) P := by
  rw [wp_def]; exact qwp_lc
theorem wp_lcD {l : M (List Dt)} {P : Dt → List Sv → Prop} : Wp (mLcD l δ) P = Wp (l δ) fun ds δ1 => P (.lst ds) δ1 := by
  rw [wp_def]; exact qwp_lcD
theorem wp_lcO {l : M (List Dt)} {P : Sv → List Sv → Prop} : Wp (mLcO l δ) P = Wp (l δ) fun ds δ1 => P (.lst ds) δ1 := by
  rw [wp_def]; exact qwp_lcO
theorem wp_yes {P : Bool → List Sv → Prop} : Wp (mYes δ) P = P true δ := by
  rw [wp_def]; exact qwp_yes
theorem lc0 {vs : List Nat} {t : Tgt} {c : M Bool} {el : M Dt} {P : List Dt → List Sv → Prop} : Wp (lcL vs t c el [] δ) P = P [] δ := by
  rw [wp_def]; exact qlc0
theorem lc1 {vs : List Nat} {t : Tgt} {c : M Bool} {el : M Dt} {d : Dt} {ds : List Dt} {P : List Dt → List Sv → Prop} : Wp (lcL vs t c el (d :: ds) δ) P = Wp (t d (wipeS δ vs)) fun _ δ1 => Wp (c δ1) fun b δ2 =>
    Br b (Wp (el δ2) fun y δ3 => Wp (lcL vs t c el ds (restS δ3 δ vs)) fun ys δ4 => P (y :: ys) δ4) (Wp (lcL vs t c el ds (restS δ2 δ vs)) P) := by
  rw [wp_def]; exact qlc1
theorem lc_at {vs : List Nat} {t : Tgt} {c : M Bool} {el : M Dt} {ds : List Dt} {P : List Dt → List Sv → Prop} (I : Nat → List Dt → List Sv → Prop) (h0 : I 0 [] δ)
    (hs : ∀ i d ys δ, ds[i]? = some d → I i ys δ → Wp (t d (wipeS δ vs)) fun _ δ1 => Wp (c δ1) fun b δ2 => Br b (Wp (el δ2) fun y δ3 => I (i + 1) (ys ++ [y]) (restS δ3 δ vs)) (I (i + 1) ys (restS δ2 δ vs)))
    (hP : ∀ ys δ, I ds.length ys δ → P ys δ) : Wp (lcL vs t c el ds δ) P := by
  rw [wp_def] at *; exact qlc_at I h0 hs hP
theorem lc_map {vs : List Nat} {t : Tgt} {el : M Dt} {ds : List Dt} {P : List Dt → List Sv → Prop} (I : Nat → List Dt → List Sv → Prop) (h0 : I 0 [] δ)
    (hs : ∀ i d ys δ, ds[i]? = some d → I i ys δ → Wp (t d (wipeS δ vs)) fun _ δ1 => Wp (el δ1) fun y δ3 => I (i + 1) (ys ++ [y]) (restS δ3 δ vs))
    (hP : ∀ ys δ, I ds.length ys δ → P ys δ) : Wp (lcL vs t mYes el ds δ) P := by
  rw [wp_def] at *; exact qlc_map I h0 hs hP
theorem wp_lrng {m : M Dt} {P : Dt → List Sv → Prop} : Wp (mLRng m δ) P = Wp (m δ) fun d δ1 => Wo (rngD d) fun ds => P (.lst ds) δ1 := by
  rw [wp_def]; exact qwp_lrng
theorem wp_trng {m : M Dt} {P : Dt → List Sv → Prop} : Wp (mTRng m δ) P = Wp (m δ) fun d δ1 => Wo (rngD d) fun ds => P (.tup ds) δ1 := by
  rw [wp_def]; exact qwp_trng
theorem wp_lrngO {m : M Dt} {P : Sv → List Sv → Prop} : Wp (mLRngO m δ) P = Wp (m δ) fun d δ1 => Wo (rngD d) fun ds => P (.lst ds) δ1 := by
  rw [wp_def]; exact qwp_lrngO
theorem wp_lstOf {g : Rg} {P : Sv → List Sv → Prop} : Wp (mLstOf g δ) P = Wp (g.run δ) fun x δ1 => Wo (rv δ1 x) fun d => atS (fun ds => P (.lst ds) δ1) d := by
  rw [wp_def]; exact qwp_lstOf
theorem forK_nx {t : Tgt} {b : M Fl} {ds : List Dt} {P : Fl → List Sv → Prop} : forK t b ds P .nx δ = Wp (forL t b ds δ) P := by
  rw [wp_def]; exact qforK_nx
theorem forK_ct {t : Tgt} {b : M Fl} {ds : List Dt} {P : Fl → List Sv → Prop} : forK t b ds P .ct δ = Wp (forL t b ds δ) P := by
  rw [wp_def]; exact qforK_ct
theorem make_wp {C : Addr} {r : Res Sv} {P : Dt → List Sv → Prop} : Wp (match r with
  | .ok (.dat .non) (.ins C' fs :: _) => if C' = C then .ok (.obj C fs) δ else .bad
  | _ => .bad) P = Wp r (fun s os => atX C (fun fs => P (.obj C fs) δ) s os) := by
  rw [wp_def]; exact qmake_wp
theorem wp_make {C : Addr} {c : List Sv → Res Sv} {ms : List (M Dt)} {P : Dt → List Sv → Prop} : Wp (mMake C c ms δ) P = Wp (mAll ms δ) fun ds δ1 => Wp (c (.ins C [] :: ds.map .dat)) (fun s os => atX C (fun fs => P (.obj C fs) δ1) s os) := by
  rw [wp_def]; exact qwp_make
theorem wp_makeK {C : Addr} {c : List Sv → Res Sv} {ms ks : List (M Dt)} {gD : List Dt → List Dt → List Dt} {P : Dt → List Sv → Prop} : Wp (mMakeK C c ms ks gD δ) P = Wp (mAll ms δ) fun ds δ1 => Wp (mAll ks δ1) fun es δ2 => Wp (c (.ins C [] :: (gD ds es).map .dat)) (fun s os => atX C (fun fs => P (.obj C fs) δ2) s os) := by
  rw [wp_def]; exact qwp_makeK
theorem wp_fldSet {cs : List Addr} {i : Nat} {f : Str} {m : M Dt} {P : Fl → List Sv → Prop} : Wp (mFldSet cs i f m δ) P = Wp (m δ) fun d δ1 => atJ cs (fun C fs => P .nx (δ1.set i (.ins C (putD f d fs)))) δ1[i]? := by
  rw [wp_def]; exact qwp_fldSet
theorem wp_meth {C : Addr} {nm : Str} {c : List Sv → Res Sv} {o : M Dt} {ags : List Ag} {P : Sv → List Sv → Prop} : Wp (mMeth C nm c o ags δ) P = Wp (o δ) fun d δ1 => match d with
    | .obj C' fs => (C' = C ∧ fs.lookup nm = none) ∧ Wp (mAgs ags δ1) fun ds δ2 => Wp (c (.dat (.obj C' fs) :: pickA δ2 ags ds)) fun s outs => P s (backS δ2 (none :: ags.map Ag.kind) outs)
    | _ => False := by
  rw [wp_def]; exact qwp_meth
theorem wp_js0 {acc : Str} {P : Str → List Sv → Prop} : Wp (mJs [] acc δ) P = P acc δ := by
  rw [wp_def]; exact qwp_js0
theorem wp_js1 {m : M Dt} {ms : List (M Dt)} {acc : Str} {P : Str → List Sv → Prop} : Wp (mJs (m :: ms) acc δ) P = Wp (m δ) fun d δ1 => atStr (fun y => (acc ++ y).length ≤ 1000000 ∧ Wp (mJs ms (acc ++ y) δ1) P) d := by
  rw [wp_def]; exact qwp_js1
theorem wp_fstr {ms : List (M Dt)} {P : Dt → List Sv → Prop} : Wp (mFstr ms δ) P = Wp (mJs ms Str.empty δ) fun z δ1 => P (.str z) δ1 := by
  rw [wp_def]; exact qwp_fstr
theorem wp_join {a b : M Dt} {P : Dt → List Sv → Prop} : Wp (mJoin a b δ) P = Wp (a δ) fun x δ1 => atStr (fun s => Wp (b δ1) fun y δ2 => Wo (joinD (.str s) y) fun z => P z δ2) x := by
  rw [wp_def]; exact qwp_join
end
end Qm

set_option Elab.async false
set_option linter.all false
set_option maxRecDepth 100000
set_option maxHeartbeats 4000000
namespace Qm
open PySem PySem.Spec PyProof.Rows L2 Pd
/-! ### data whose == is being the same -/
mutual
def pureD : Dt → Bool
  | .non => true
  | .int _ => true
  | .str _ => true
  | .tup ds => puresD ds
  | .lst ds => puresD ds
  | _ => false
def puresD : List Dt → Bool
  | [] => true
  | d :: ds => pureD d && puresD ds
end
theorem puresD_iff : ∀ {ds : List Dt}, puresD ds = true ↔ ∀ d ∈ ds, pureD d = true
  | [] => by simp [puresD]
  | d :: ds => by simp [puresD, puresD_iff (ds := ds)]
mutual
def depD : Dt → Nat
  | .tup ds => depsD ds + 1
  | .lst ds => depsD ds + 1
  | _ => 0
def depsD : List Dt → Nat
  | [] => 0
  | d :: ds => max (depD d) (depsD ds)
end
mutual
theorem toPy_pure : ∀ {d : Dt}, pureD d = true → ∃ p, toPy d = some p
  | .non, _ => ⟨_, rfl⟩
  | .int _, _ => ⟨_, rfl⟩
  | .str _, _ => ⟨_, rfl⟩
  | .tup ds, h => by
    unfold pureD at h
    obtain ⟨ps, e⟩ := toPys_pure h
    exact ⟨.tuple ps, by unfold toPy; rw [e]; rfl⟩
  | .lst ds, h => by
    unfold pureD at h
    obtain ⟨ps, e⟩ := toPys_pure h
    exact ⟨.list ps, by unfold toPy; rw [e]; rfl⟩
  | .bl _, h => by simp [pureD] at h
  | .raw _, h => by simp [pureD] at h
  | .obj _ _, h => by simp [pureD] at h
  | .scr _, h => by simp [pureD] at h
  | .dct _, h => by simp [pureD] at h
theorem toPys_pure : ∀ {ds : List Dt}, puresD ds = true → ∃ ps, toPys ds = some ps
  | [], _ => ⟨_, rfl⟩
  | d :: ds, h => by
    unfold puresD at h
    rw [Bool.and_eq_true] at h
    obtain ⟨p, e⟩ := toPy_pure h.1
    obtain ⟨ps, e2⟩ := toPys_pure h.2
    exact ⟨p :: ps, by unfold toPys; rw [e, e2]⟩
end
theorem pyD_eq {d : Dt} (h : pureD d = true) : toPy d = some (pyD d) := by
  obtain ⟨p, e⟩ := toPy_pure h
  unfold pyD
  rw [e]
  rfl
theorem pysD_eq : ∀ {ds : List Dt}, puresD ds = true → toPys ds = some (ds.map pyD)
  | [], _ => rfl
  | d :: ds, h => by
    unfold puresD at h
    rw [Bool.and_eq_true] at h
    unfold toPys
    rw [pyD_eq h.1, pysD_eq h.2]
    rfl
theorem pyD_tup {ds : List Dt} (h : puresD ds = true) : pyD (.tup ds) = .tuple (ds.map pyD) := by
  have e : toPy (.tup ds) = some (.tuple (ds.map pyD)) := by
    unfold toPy
    rw [pysD_eq h]
    rfl
  show (toPy (.tup ds)).getD .none = _
  rw [e]
  rfl
theorem pyD_lst {ds : List Dt} (h : puresD ds = true) : pyD (.lst ds) = .list (ds.map pyD) := by
  have e : toPy (.lst ds) = some (.list (ds.map pyD)) := by
    unfold toPy
    rw [pysD_eq h]
    rfl
  show (toPy (.lst ds)).getD .none = _
  rw [e]
  rfl
theorem pyD_int {i : Int} : pyD (.int i) = .int i := rfl
theorem pyD_str {z : Str} : pyD (.str z) = .str z := rfl
theorem pyD_non : pyD .non = .none := rfl
mutual
theorem eqv_pure : ∀ {x y : Dt}, pureD x = true → pureD y = true → (PyData.eqv (pyD x) (pyD y) = true ↔ x = y)
  | .tup ds, y, hx, hy => by
    unfold pureD at hx
    rw [pyD_tup hx]
    cases y with
    | tup es =>
      unfold pureD at hy
      rw [pyD_tup hy]
      unfold PyData.eqv
      rw [eqvs_pure hx hy]
      simp
    | lst es =>
      unfold pureD at hy
      rw [pyD_lst hy]
      simp [PyData.eqv]
    | int i => simp [pyD_int, PyData.eqv]
    | str i => simp [pyD_str, PyData.eqv]
    | non => simp [pyD_non, PyData.eqv]
    | _ => simp [pureD] at hy
  | .lst ds, y, hx, hy => by
    unfold pureD at hx
    rw [pyD_lst hx]
    cases y with
    | lst es =>
      unfold pureD at hy
      rw [pyD_lst hy]
      unfold PyData.eqv
      rw [eqvs_pure hx hy]
      simp
    | tup es =>
      unfold pureD at hy
      rw [pyD_tup hy]
      simp [PyData.eqv]
    | int i => simp [pyD_int, PyData.eqv]
    | str i => simp [pyD_str, PyData.eqv]
    | non => simp [pyD_non, PyData.eqv]
    | _ => simp [pureD] at hy
  | .int i, y, hx, hy => by
    cases y with
    | tup es =>
      unfold pureD at hy
      rw [pyD_tup hy]
      simp [pyD_int, PyData.eqv]
    | lst es =>
      unfold pureD at hy
      rw [pyD_lst hy]
      simp [pyD_int, PyData.eqv]
    | int i => simp [pyD_int, PyData.eqv]
    | str i => simp [pyD_int, pyD_str, PyData.eqv]
    | non => simp [pyD_int, pyD_non, PyData.eqv]
    | _ => simp [pureD] at hy
  | .str i, y, hx, hy => by
    cases y with
    | tup es =>
      unfold pureD at hy
      rw [pyD_tup hy]
      simp [pyD_str, PyData.eqv]
    | lst es =>
      unfold pureD at hy
      rw [pyD_lst hy]
      simp [pyD_str, PyData.eqv]
    | int i => simp [pyD_int, pyD_str, PyData.eqv]
    | str i => simp [pyD_str, PyData.eqv]
    | non => simp [pyD_str, pyD_non, PyData.eqv]
    | _ => simp [pureD] at hy
  | .non, y, hx, hy => by
    cases y with
    | tup es =>
      unfold pureD at hy
      rw [pyD_tup hy]
      simp [pyD_non, PyData.eqv]
    | lst es =>
      unfold pureD at hy
      rw [pyD_lst hy]
      simp [pyD_non, PyData.eqv]
    | int i => simp [pyD_int, pyD_non, PyData.eqv]
    | str i => simp [pyD_str, pyD_non, PyData.eqv]
    | non => simp [pyD_non, PyData.eqv]
    | _ => simp [pureD] at hy
  | .bl _, _, h, _ => by simp [pureD] at h
  | .raw _, _, h, _ => by simp [pureD] at h
  | .obj _ _, _, h, _ => by simp [pureD] at h
  | .scr _, _, h, _ => by simp [pureD] at h
  | .dct _, _, h, _ => by simp [pureD] at h
theorem eqvs_pure : ∀ {xs ys : List Dt}, puresD xs = true → puresD ys = true → (PyData.eqvAll (xs.map pyD) (ys.map pyD) = true ↔ xs = ys)
  | [], ys, _, _ => by cases ys <;> simp [PyData.eqvAll]
  | x :: xs, ys, hx, hy => by
    unfold puresD at hx
    rw [Bool.and_eq_true] at hx
    cases ys with
    | nil => simp [PyData.eqvAll]
    | cons y ys =>
      unfold puresD at hy
      rw [Bool.and_eq_true] at hy
      simp only [List.map_cons, PyData.eqvAll, Bool.and_eq_true, List.cons.injEq]
      rw [eqv_pure hx.1 hy.1, eqvs_pure hx.2 hy.2]
end
mutual
theorem depth_pure : ∀ {d : Dt}, pureD d = true → (pyD d).depth = depD d
  | .tup ds, h => by
    unfold pureD at h
    rw [pyD_tup h, depD, PyData.depth, depths_pure h]
  | .lst ds, h => by
    unfold pureD at h
    rw [pyD_lst h, depD, PyData.depth, depths_pure h]
  | .int i, h => by simp [pyD_int, depD, PyData.depth]
  | .str i, h => by simp [pyD_str, depD, PyData.depth]
  | .non, h => by simp [pyD_non, depD, PyData.depth]
  | .bl _, h => by simp [pureD] at h
  | .raw _, h => by simp [pureD] at h
  | .obj _ _, h => by simp [pureD] at h
  | .scr _, h => by simp [pureD] at h
  | .dct _, h => by simp [pureD] at h
theorem depths_pure : ∀ {ds : List Dt}, puresD ds = true → PyData.depthAll (ds.map pyD) = depsD ds
  | [], _ => by simp [PyData.depthAll, depsD]
  | d :: ds, h => by
    unfold puresD at h
    rw [Bool.and_eq_true] at h
    simp only [List.map_cons, PyData.depthAll, depsD]
    rw [depth_pure h.1, depths_pure h.2]
end
theorem depsD_le {n : Nat} : ∀ {ds : List Dt}, (∀ d ∈ ds, depD d ≤ n) → depsD ds ≤ n
  | [], _ => by simp [depsD]
  | d :: ds, h => by
    unfold depsD
    exact Nat.max_le.mpr ⟨h d List.mem_cons_self, depsD_le fun e he => h e (List.mem_cons_of_mem _ he)⟩
/-- a == b among such data -/
theorem eqB_pure {x y : Dt} (hx : pureD x = true) (hy : pureD y = true) (hd : depD x ≤ 60) : ∃ b, eqB x y = some b ∧ (b = true ↔ x = y) := by
  refine ⟨PyData.eqv (pyD x) (pyD y), ?_, eqv_pure hx hy⟩
  unfold eqB
  rw [pyD_eq hx, pyD_eq hy]
  simp only
  rw [if_pos]
  rw [depth_pure hx]
  exact Nat.le_trans (Nat.min_le_left _ _) hd
theorem wo_eq {x y : Dt} {P : Dt → Prop} (hx : pureD x = true) (hy : pureD y = true) (hd : depD x ≤ 60) (h : ∀ b, (b = true ↔ x = y) → P (.bl b)) : Qm.Wo (eqD x y) P := by
  obtain ⟨b, e, hb⟩ := eqB_pure hx hy hd
  unfold eqD
  rw [e]
  exact h b hb
theorem wo_ne {x y : Dt} {P : Dt → Prop} (hx : pureD x = true) (hy : pureD y = true) (hd : depD x ≤ 60) (h : ∀ b, (b = true ↔ x = y) → P (.bl (!b))) : Qm.Wo (neD x y) P := by
  obtain ⟨b, e, hb⟩ := eqB_pure hx hy hd
  unfold neD
  rw [e]
  exact h b hb
theorem inB_pure {x : Dt} {ys : List Dt} (hx : pureD x = true) (hy : puresD ys = true) (hd : depD x ≤ 60) : ∃ b, inB x (.lst ys) = some b ∧ inB x (.tup ys) = some b ∧ (b = true ↔ x ∈ ys) := by
  have e : ((ys.map pyD).any fun z => PyData.eqv z (pyD x)) = true ↔ x ∈ ys := by
    rw [List.any_map, List.any_eq_true]
    have hys := puresD_iff.mp hy
    constructor
    · rintro ⟨y, hm, h⟩
      rw [← (eqv_pure (hys y hm) hx).mp h]
      exact hm
    · exact fun hm => ⟨x, hm, (eqv_pure hx hx).mpr rfl⟩
  have hm : min (PyData.depthAll (ys.map pyD)) (pyD x).depth ≤ 60 := by
    rw [depth_pure hx]
    exact Nat.le_trans (Nat.min_le_right _ _) hd
  refine ⟨_, ?_, ?_, e⟩ <;>
  · unfold inB
    rw [pyD_eq hx]
    simp only [pysD_eq hy]
    rw [if_pos hm]
theorem wo_in {x : Dt} {ys : List Dt} {P : Dt → Prop} (hx : pureD x = true) (hy : puresD ys = true) (hd : depD x ≤ 60) (h : ∀ b, (b = true ↔ x ∈ ys) → P (.bl b)) : Qm.Wo (inD x (.lst ys)) P := by
  obtain ⟨b, e, _, hb⟩ := inB_pure hx hy hd
  unfold inD
  rw [e]
  exact h b hb
theorem wo_inT {x : Dt} {ys : List Dt} {P : Dt → Prop} (hx : pureD x = true) (hy : puresD ys = true) (hd : depD x ≤ 60) (h : ∀ b, (b = true ↔ x ∈ ys) → P (.bl b)) : Qm.Wo (inD x (.tup ys)) P := by
  obtain ⟨b, _, e, hb⟩ := inB_pure hx hy hd
  unfold inD
  rw [e]
  exact h b hb
theorem eqD_int {i j : Int} : eqD (.int i) (.int j) = some (.bl (decide (i = j))) := by
  unfold eqD
  rw [eqB_int]
  rfl
theorem neD_int {i j : Int} : neD (.int i) (.int j) = some (.bl (!decide (i = j))) := by
  unfold neD
  rw [eqB_int]
  rfl
/-! ### names -/
abbrev lettersS : Str := "abcdefghijklmnopqrstuvwxyz"
abbrev signsS : Str := "abcdefghijklmnopqrstuvwxyz0123456789"
theorem len_cps (z : Str) : z.length = z.cps.toList.length := by simp [Str.length]
theorem cps_app (x y : Str) : (x ++ y).cps.toList = x.cps.toList ++ y.cps.toList := by
  show (x.cps ++ y.cps).toList = _
  rw [Array.toList_append]
theorem slen_app (x y : Str) : (x ++ y).length = x.length + y.length := by rw [len_cps, len_cps, len_cps, cps_app, List.length_append]
theorem str_ext {x y : Str} (h : x.cps.toList = y.cps.toList) : x = y := by
  cases x; cases y
  simp at h
  rw [h]
/-- a name of a to b signs -/
def Nm (a b : Nat) (z : Str) : Prop := ∃ c r, z.cps.toList = c :: r ∧ c ∈ lettersS.cps.toList ∧ (∀ d ∈ z.cps.toList, d ∈ signsS.cps.toList) ∧ a ≤ z.length ∧ z.length ≤ b
theorem Nm.mono {a b c d : Nat} {z : Str} (h : Nm a b z) (h1 : c ≤ a) (h2 : b ≤ d) : Nm c d z := by
  obtain ⟨e, r, q1, q2, q3, q4, q5⟩ := h
  exact ⟨e, r, q1, q2, q3, by omega, by omega⟩
theorem Nm.lo {a b : Nat} {z : Str} (h : Nm a b z) : a ≤ z.length := by obtain ⟨e, r, q1, q2, q3, q4, q5⟩ := h; exact q4
theorem Nm.hi {a b : Nat} {z : Str} (h : Nm a b z) : z.length ≤ b := by obtain ⟨e, r, q1, q2, q3, q4, q5⟩ := h; exact q5
theorem Nm.pos {a b : Nat} {z : Str} (h : Nm a b z) : 1 ≤ z.length := by obtain ⟨e, r, q1, q2, q3, q4, q5⟩ := h; rw [len_cps, q1]; simp
theorem Nm.app {a b : Nat} {z : Str} {y : Str} (h : Nm a b z) (hy : ∀ d ∈ y.cps.toList, d ∈ signsS.cps.toList) : Nm (a + y.length) (b + y.length) (z ++ y) := by
  obtain ⟨e, r, h1, h2, h3, h4, h5⟩ := h
  refine ⟨e, r ++ y.cps.toList, ?_, h2, fun d hd => ?_, ?_, ?_⟩
  · rw [cps_app, h1]
    rfl
  · rw [cps_app] at hd
    rcases List.mem_append.mp hd with hd | hd
    · exact h3 d hd
    · exact hy d hd
  · rw [slen_app]; omega
  · rw [slen_app]; omega
theorem letters_signs : ∀ c ∈ lettersS.cps.toList, c ∈ signsS.cps.toList := by decide +kernel
theorem Nm.one {c : Nat} (hc : c ∈ lettersS.cps.toList) : Nm 1 1 ⟨#[c]⟩ := ⟨c, [], rfl, hc, fun d hd => by
  rw [List.mem_singleton.mp (show d ∈ [c] from hd)]
  exact letters_signs c hc, Nat.le_refl 1, Nat.le_refl 1⟩
/-- the sign at a place of a text -/
theorem wo_at {z : Str} {k : Nat} {P : Dt → Prop} (hz : z.length ≤ 100000) (hk : k < z.length) (h : ∀ c, c ∈ z.cps.toList → P (.str ⟨#[c]⟩)) : Qm.Wo (ixD (.str z) (.int (k : Int))) P := by
  have hk' : k < z.cps.toList.length := by rw [← len_cps]; exact hk
  unfold ixD
  simp only
  rw [if_pos hz, atK hk']
  exact h _ (List.getElem_mem hk')
theorem isi_str {tb : Addr → V → Option Bool} {cs : List Addr} {z : Str} : isiD tb cs (.str z) (.raw (.ty "str")) = some (.bl true) := by
  unfold isiD
  simp only [tyD]
  rw [show kitB "str" "str" = some true from by decide +kernel]
  rfl
theorem isi_int {tb : Addr → V → Option Bool} {cs : List Addr} {z : Int} : isiD tb cs (.int z) (.raw (.ty "int")) = some (.bl true) := by
  unfold isiD
  simp only [tyD]
  rw [show kitB "int" "int" = some true from by decide +kernel]
  rfl
theorem isi_intb {tb : Addr → V → Option Bool} {cs : List Addr} {z : Int} : isiD tb cs (.int z) (.raw (.ty "bool")) = some (.bl false) := by
  unfold isiD
  simp only [tyD]
  rw [show kitB "int" "bool" = some false from by decide +kernel]
  rfl
theorem isi_tup {tb : Addr → V → Option Bool} {cs : List Addr} {ds : List Dt} : isiD tb cs (.tup ds) (.raw (.ty "tuple")) = some (.bl true) := by
  unfold isiD
  simp only [tyD]
  rw [show kitB "tuple" "tuple" = some true from by decide +kernel]
  rfl
theorem wo_at0 {z : Str} {c : Nat} {r : List Nat} {P : Dt → Prop} (hz : z.length ≤ 100000) (hc : z.cps.toList = c :: r) (h : P (.str ⟨#[c]⟩)) : Qm.Wo (ixD (.str z) (.int 0)) P := by
  unfold ixD
  simp only
  rw [if_pos hz, hc, atI_0]
  exact h
theorem inB_sign {c : Nat} {y : Str} : inB (.str ⟨#[c]⟩) (.str y) = some (decide (c ∈ y.cps.toList)) := by
  unfold inB
  simp only [toPy]
  rw [if_pos (show (#[c] : Array Nat).size = 1 from rfl)]
  simp
theorem inD_sign {c : Nat} {y : Str} : inD (.str ⟨#[c]⟩) (.str y) = some (.bl (decide (c ∈ y.cps.toList))) := by
  unfold inD
  rw [inB_sign]
  rfl
abbrev natD (i : Nat) : Dt := .int (i : Int)
theorem upto_nat {m : Nat} : upto 0 ((m : Int)).toNat = (List.range m).map natD := by
  unfold upto
  rw [Int.toNat_natCast]
  simp
theorem upto_nat' {m : Nat} : upto 0 m = (List.range m).map natD := by
  unfold upto
  simp
theorem blsOf_fmap {α : Type} {f : α → Bool} : ∀ {xs : List α}, blsOf (xs.map fun x => .bl (f x)) = some (xs.map f)
  | [] => rfl
  | x :: xs => by
    show (blsOf (xs.map fun x => .bl (f x))).map _ = _
    rw [blsOf_fmap]
    rfl
theorem allD_true : ∀ {n : Nat}, allD (.lst (List.replicate n (.bl true))) = some (.bl true) := fun {n} => by
  unfold allD
  have : blsOf (List.replicate n (Dt.bl true)) = some (List.replicate n true) := by
    rw [← List.map_replicate]
    exact blsOf_map _
  simp [this]
theorem map_erase {α β : Type} {f : α → β} : ∀ {xs : List α} {k : Nat}, (xs.map f).eraseIdx k = (xs.eraseIdx k).map f
  | [], k => by simp
  | x :: xs, 0 => by simp
  | x :: xs, k + 1 => by simp [map_erase (xs := xs)]
theorem perm_erase {α : Type} : ∀ {xs : List α} {k : Nat} (h : k < xs.length), ([xs[k]] ++ xs.eraseIdx k).Perm xs
  | [], k, h => by simp at h
  | x :: xs, 0, h => by simp
  | x :: xs, k + 1, h => by
    have ih := perm_erase (xs := xs) (k := k) (by simpa using h)
    simp only [List.getElem_cons_succ, List.eraseIdx_cons_succ, List.cons_append, List.nil_append] at ih ⊢
    exact (List.Perm.swap _ _ _).trans (ih.cons x)
/-- some of l's, in any order -/
def Sub {α : Type} (l' l : List α) : Prop := ∃ k, k.Sublist l ∧ l'.Perm k
theorem Sub.mem {α : Type} {l' l : List α} (h : Sub l' l) {x : α} (hx : x ∈ l') : x ∈ l := by
  obtain ⟨k, h1, h2⟩ := h
  exact h1.subset (h2.mem_iff.mp hx)
theorem Sub.nodup {α : Type} {l' l : List α} (h : Sub l' l) (hl : l.Nodup) : l'.Nodup := by
  obtain ⟨k, h1, h2⟩ := h
  exact h2.nodup_iff.mpr (h1.nodup hl)
theorem Sub.len {α : Type} {l' l : List α} (h : Sub l' l) : l'.length ≤ l.length := by
  obtain ⟨k, h1, h2⟩ := h
  rw [h2.length_eq]
  exact h1.length_le
theorem range_get {α : Type} {k : List α} : ((List.range k.length).map fun j => k[j]?) = k.map some := by
  apply List.ext_getElem?
  intro i
  rw [List.getElem?_map, List.getElem?_map]
  by_cases h : i < k.length
  · rw [List.getElem?_range h, List.getElem?_eq_getElem h]
    simp [h]
  · rw [List.getElem?_eq_none (by simpa using h), List.getElem?_eq_none (by omega)]
    rfl
theorem perm_some {α : Type} {l k : List α} (h : (l.map some).Perm (k.map some)) : l.Perm k := by
  have := h.filterMap id
  simpa [List.filterMap_map] using this
/-- a comprehension that changes nothing: value by value -/
theorem lc_fn {α : Type} {f g : α → Dt} {l : List α} {vs : List Nat} {t : Tgt} {el : M Dt} {δ : List Sv} {P : List Dt → List Sv → Prop}
    (hs : ∀ x ∈ l, Wp (t (f x) (wipeS δ vs)) fun _ δ1 => Wp (el δ1) fun y δ3 => y = g x ∧ restS δ3 δ vs = δ) (h : P (l.map g) δ) : Wp (lcL vs t mYes el (l.map f) δ) P := by
  refine lc_map (fun i ys δ' => ys = (l.take i).map g ∧ δ' = δ) ⟨rfl, rfl⟩ ?_ ?_
  · rintro i d ys δ' hd ⟨rfl, rfl⟩
    rw [List.getElem?_map] at hd
    cases e : l[i]? with
    | none => rw [e] at hd; cases hd
    | some x =>
      rw [e] at hd
      cases hd
      refine (hs x (List.mem_of_getElem? e)).imp fun _ δ1 h1 => h1.imp fun y δ3 h2 => ?_
      rw [List.take_succ, e]
      exact ⟨by rw [h2.1]; simp, h2.2⟩
  · rintro ys δ' ⟨rfl, rfl⟩
    rw [List.length_map, List.take_length]
    exact h
theorem lc_fnB {α : Type} {f : α → Dt} {g : α → Bool} {l : List α} {vs : List Nat} {t : Tgt} {el : M Dt} {δ : List Sv} {P : List Dt → List Sv → Prop}
    (hs : ∀ x ∈ l, Wp (t (f x) (wipeS δ vs)) fun _ δ1 => Wp (el δ1) fun y δ3 => y = .bl (g x) ∧ restS δ3 δ vs = δ) (h : P ((l.map g).map Dt.bl) δ) : Wp (lcL vs t mYes el (l.map f) δ) P :=
  lc_fn (g := fun x => .bl (g x)) hs (by rw [List.map_map] at h; exact h)
/-- every place answers yes -/
theorem lc_yes {α : Type} {f : α → Dt} {l : List α} {vs : List Nat} {t : Tgt} {el : M Dt} {δ : List Sv} {P : List Dt → List Sv → Prop}
    (hs : ∀ x ∈ l, Wp (t (f x) (wipeS δ vs)) fun _ δ1 => Wp (el δ1) fun y δ3 => y = .bl true ∧ restS δ3 δ vs = δ) (h : P (List.replicate l.length (.bl true)) δ) : Wp (lcL vs t mYes el (l.map f) δ) P :=
  lc_fn (g := fun _ => .bl true) hs (by rw [List.map_const']; exact h)
end Qm

set_option Elab.async false
set_option linter.all false
set_option maxRecDepth 100000
set_option maxHeartbeats 4000000
namespace Qm
open PySem PySem.Spec PyProof.Rows L2 Pd
/-! ### what can be shown -/
structure NicP (n k : Nat) (p : PyData) : Prop where
  s : p.showable = true
  d : p.hasDict = false
  c : p.canLay0 = true
  i : p.intsShort 200 = true
  w : p.weight ≤ n
  e : p.depth ≤ k
def Nic (n k : Nat) (d : Dt) : Prop := ∃ p, toPy d = some p ∧ NicP n k p
structure NicPs (n k : Nat) (p : List PyData) : Prop where
  s : PyData.showableAll p = true
  d : PyData.hasDictAll p = false
  c : PyData.canLayAll0 p = true
  i : PyData.intsShortAll 200 p = true
  w : PyData.weightAll p ≤ n
  e : PyData.depthAll p ≤ k
def Nics (n k : Nat) (ds : List Dt) : Prop := ∃ ps, toPys ds = some ps ∧ NicPs n k ps
theorem log_small {x : Int} (h1 : -(2 ^ 64) < x) (h2 : x < 2 ^ 64) : x.natAbs.log2 < 64 := by
  have h2 : x.natAbs < 2 ^ 64 := by omega
  exact PySem.Flt.log2_lt_of (by decide) h2
theorem nic_int {x : Int} (h1 : -(2 ^ 64) < x) (h2 : x < 2 ^ 64) : Nic 64 0 (.int x) := by
  have hl := log_small h1 h2
  refine ⟨_, rfl, ?_, rfl, rfl, ?_, ?_, Nat.le_refl _⟩
  · simp only [PyData.showable]
    exact decide_eq_true (by omega)
  · have := PySem.int_text_length_le (a := x) (k := 64) (by decide) hl
    simp only [PyData.intsShort]
    refine decide_eq_true ?_
    show (Str.ofString (toString x)).length ≤ 200
    rw [PySem.ofString_length]
    omega
  · rw [PyData.weight]
    split <;> omega
theorem nic_nat {x : Nat} (h : x < 2 ^ 64) : Nic 64 0 (natD x) := nic_int (by omega) (by omega)
theorem nic_bl {b : Bool} : Nic 0 0 (.bl b) := ⟨_, rfl, rfl, rfl, rfl, rfl, by rw [PyData.weight]; exact Nat.le_refl _, Nat.le_refl _⟩
theorem nic_non : Nic 0 0 .non := ⟨_, rfl, rfl, rfl, rfl, rfl, by rw [PyData.weight]; exact Nat.le_refl _, Nat.le_refl _⟩
theorem nic_str {z : Str} {n : Nat} (h : PyData.strOk z = true) (hn : z.length ≤ n) : Nic n 0 (.str z) := ⟨_, rfl, rfl, rfl, h, rfl, by rw [PyData.weight]; rw [len_cps, Array.length_toList] at hn; exact hn, Nat.le_refl _⟩
theorem Nm.strOk {a b : Nat} {z : Str} (h : Nm a b z) : PyData.strOk z = true := by
  obtain ⟨c, r, h1, h2, h3, _, _⟩ := h
  have hs : ∀ c ∈ signsS.cps.toList, c < 128 := by decide +kernel
  unfold PyData.strOk
  rw [← Array.all_toList]
  exact List.all_eq_true.mpr fun d hd => decide_eq_true (Nat.lt_trans (hs d (h3 d hd)) (by decide))
theorem nics_nil {k : Nat} : Nics 0 k [] := ⟨_, rfl, rfl, rfl, rfl, rfl, Nat.le_refl _, Nat.zero_le _⟩
theorem nics_cons {a b k : Nat} {d : Dt} {ds : List Dt} (h : Nic a k d) (hs : Nics b k ds) : Nics (a + 1 + b) k (d :: ds) := by
  obtain ⟨p, e, h⟩ := h
  obtain ⟨ps, es, hs⟩ := hs
  refine ⟨p :: ps, by unfold toPys; rw [e, es], ?_, ?_, ?_, ?_, ?_, ?_⟩
  · simp only [PyData.showableAll, h.s, hs.s, Bool.and_self]
  · simp only [PyData.hasDictAll, h.d, hs.d, Bool.or_self]
  · simp only [PyData.canLayAll0, h.c, hs.c, Bool.and_self]
  · simp only [PyData.intsShortAll, h.i, hs.i, Bool.and_self]
  · have := h.w
    have := hs.w
    simp only [PyData.weightAll]
    omega
  · simp only [PyData.depthAll]
    exact Nat.max_le.mpr ⟨h.e, hs.e⟩
theorem nic_tup {n k : Nat} {ds : List Dt} (h : Nics n k ds) : Nic n (k + 1) (.tup ds) := by
  obtain ⟨ps, e, h⟩ := h
  refine ⟨.tuple ps, by unfold toPy; rw [e]; rfl, ?_, ?_, ?_, ?_, ?_, ?_⟩
  · rw [PyData.showable]; exact h.s
  · rw [PyData.hasDict]; exact h.d
  · rw [PyData.canLay0]; exact h.c
  · rw [PyData.intsShort]; exact h.i
  · rw [PyData.weight]; exact h.w
  · rw [PyData.depth]; exact Nat.succ_le_succ h.e
theorem nic_lst {n k : Nat} {ds : List Dt} (h : Nics n k ds) : Nic n (k + 1) (.lst ds) := by
  obtain ⟨ps, e, h⟩ := h
  refine ⟨.list ps, by unfold toPy; rw [e]; rfl, ?_, ?_, ?_, ?_, ?_, ?_⟩
  · rw [PyData.showable]; exact h.s
  · rw [PyData.hasDict]; exact h.d
  · rw [PyData.canLay0]; exact h.c
  · rw [PyData.intsShort]; exact h.i
  · rw [PyData.weight]; exact h.w
  · rw [PyData.depth]; exact Nat.succ_le_succ h.e
theorem Nic.mono {n k n' k' : Nat} {d : Dt} (h : Nic n k d) (hn : n ≤ n') (hk : k ≤ k') : Nic n' k' d := by
  obtain ⟨p, e, h⟩ := h
  exact ⟨p, e, h.s, h.d, h.c, h.i, Nat.le_trans h.w hn, Nat.le_trans h.e hk⟩
theorem Nics.mono {n k n' k' : Nat} {d : List Dt} (h : Nics n k d) (hn : n ≤ n') (hk : k ≤ k') : Nics n' k' d := by
  obtain ⟨p, e, h⟩ := h
  exact ⟨p, e, h.s, h.d, h.c, h.i, Nat.le_trans h.w hn, Nat.le_trans h.e hk⟩
theorem nics_map {α : Type} {f : α → Dt} {n k : Nat} : ∀ {l : List α}, (∀ x ∈ l, Nic n k (f x)) → Nics ((n + 1) * l.length) k (l.map f)
  | [], _ => nics_nil
  | x :: l, h => by
    refine (nics_cons (h x List.mem_cons_self) (nics_map fun y hy => h y (List.mem_cons_of_mem _ hy))).mono ?_ (Nat.le_refl _)
    rw [List.length_cons, Nat.mul_succ]
    omega
/-- repr of such a thing is some text; the same thing, the same text -/
theorem repr_nic {n k : Nat} {d : Dt} (h : Nic n k d) (hn : n ≤ 40000) (hk : k ≤ 60) : ∃ z, reprD d = some (.str z) := by
  obtain ⟨p, e, h⟩ := h
  refine ⟨p.shown, ?_⟩
  unfold reprD
  rw [e]
  simp only
  rw [if_pos ⟨h.s, h.d, Nat.le_trans h.e hk, shown_bound h.c h.i (Nat.le_trans h.w hn)⟩]
/-! ### sorted data -/
open Classical in
noncomputable def srtL {α : Type} (f : α → Dt) (l : List α) : List α := if h : ∃ l' : List α, l'.Perm l ∧ sortD (.lst (l.map f)) = some (.lst (l'.map f)) then h.choose else l
theorem srt_map {α : Type} {f : α → Dt} {l : List α} (hp : ∀ x ∈ l, pureD (f x) = true) (hal : PySem.W.AllAlike ((l.map f).map pyD)) (hs : PySem.W.Sortable ((l.map f).map pyD)) (hd : ∀ x ∈ l, depD (f x) ≤ 60) :
    (srtL f l).Perm l ∧ sortA (.lst (l.map f)) = some (.lst ((srtL f l).map f)) ∧ sortA (.tup (l.map f)) = some (.lst ((srtL f l).map f)) := by
  have pp : puresD (l.map f) = true := puresD_iff.mpr fun d hd => by
    obtain ⟨x, hx, rfl⟩ := List.mem_map.mp hd
    exact hp x hx
  have ex : ∃ l' : List α, l'.Perm l ∧ sortD (.lst (l.map f)) = some (.lst (l'.map f)) := by
    refine ⟨l.mergeSort (PySem.W.dataLe false fun x => pyD (f x)), List.mergeSort_perm _ _, ?_⟩
    unfold sortD
    simp only [pysD_eq pp]
    have hdep : ∀ p ∈ (l.map f).map pyD, p.depth ≤ 60 := fun p hq => by
      obtain ⟨d, hd', rfl⟩ := List.mem_map.mp hq
      obtain ⟨x, hx, rfl⟩ := List.mem_map.mp hd'
      rw [depth_pure (hp x hx)]
      exact hd x hx
    rw [if_pos ⟨hal, hs, hdep⟩]
    refine congrArg some (congrArg Dt.lst ?_)
    exact (List.map_mergeSort (r := PySem.W.dataLe false fun x => pyD (f x)) (s := PySem.W.dataLe false pyD) (f := f) fun a _ b _ => rfl).symm
  have e : srtL f l = ex.choose := by unfold srtL; rw [dif_pos ex]
  rw [e]
  exact ⟨ex.choose_spec.1, ex.choose_spec.2, ex.choose_spec.2⟩
open PySem.W in
theorem alikeAll_map {α : Type} {f : α → PyData} (h : ∀ x y, alike (f x) (f y) = true) : ∀ a b : List α, alikeAll (a.map f) (b.map f) = true
  | [], _ => by simp [alikeAll]
  | _ :: _, [] => by simp [alikeAll]
  | x :: a, y :: b => by simp only [List.map_cons, alikeAll, h x y, alikeAll_map h a b, Bool.and_self]
end Qm

set_option Elab.async false
set_option linter.all false
set_option maxRecDepth 100000
set_option maxHeartbeats 4000000
/-! Sets whose members are objects of any kind that is compared by content (a HeapKind): what len() of such a set is. -/
namespace Qs
open PySem PySem.Spec PyProof.Rows L2
/-- the c-th state of the search for h -/
abbrev stp (t : SetTable) (h : Int) (c : Nat) : SetTable.Probe := nth t.mask (runAt t.mask (SetTable.bits h % (t.mask + 1)) (SetTable.bits h)) c
theorem nth_clean (m : Nat) : ∀ (n : Nat) (p : SetTable.Probe), p.dummy = none → (nth m p n).dummy = none
  | 0, _, e => e
  | n + 1, p, e => nth_clean m n (adv m p) (by unfold adv; split <;> exact e)
theorem stp_clean (t : SetTable) (h : Int) (c : Nat) : (stp t h c).dummy = none := nth_clean _ c _ rfl
theorem stp_on (t : SetTable) (h : Int) (c d : Nat) : nth t.mask (stp t h c) d = stp t h (c + d) := (nth_add _ c _ d).symm
/-- picking by places -/
theorem pick_map {α β : Type} (f : α → β) (l : List α) : ∀ o : List Nat, o.filterMap (fun i => (l.map f)[i]?) = (o.filterMap fun i => l[i]?).map f
  | [] => rfl
  | i :: o => by
    have ih := pick_map f l o
    cases q : l[i]? with
    | none => rw [List.filterMap_cons_none (by rw [List.getElem?_map, q]; rfl), List.filterMap_cons_none q, ih]
    | some x => rw [List.filterMap_cons_some (show (l.map f)[i]? = some (f x) by rw [List.getElem?_map, q]; rfl), List.filterMap_cons_some q, List.map_cons, ih]
theorem pick_getD {α : Type} (l : List α) (d : α) : ∀ o : List Nat, (∀ i ∈ o, i < l.length) → o.filterMap (fun i => l[i]?) = o.map fun i => l.getD i d
  | [], _ => rfl
  | i :: o, hi => by
    have h0 := hi i List.mem_cons_self
    rw [List.filterMap_cons_some (List.getElem?_eq_getElem h0), pick_getD l d o fun j hj => hi j (List.mem_cons_of_mem _ hj), List.map_cons, List.getD_eq_getElem?_getD, List.getElem?_eq_getElem h0]
    rfl
theorem pick_all {α : Type} : ∀ l : List α, (List.range l.length).filterMap (fun i => l[i]?) = l := fun l => by
  cases l with
  | nil => rfl
  | cons x r =>
    have := pick_getD (x :: r) x (List.range (x :: r).length) fun i hi => List.mem_range.mp hi
    rw [this]
    refine List.ext_getElem (by simp) fun i h1 h2 => ?_
    simp only [List.length_map, List.length_range] at h1
    rw [List.getElem_map, List.getElem_range, List.getD_eq_getElem?_getD, List.getElem?_eq_getElem h1]
    rfl
theorem pick_perm {α : Type} {l : List α} {o : List Nat} (h : o.Perm (List.range l.length)) : (o.filterMap fun i => l[i]?).Perm l := by
  have := h.filterMap fun i => l[i]?
  rwa [pick_all] at this

/-- what is asked of the kind beside its equality -/
structure Eld {P : Program} {w : World} {κ : Type} [DecidableEq κ] (hk : HeapKind P w κ) : Prop where
  cls : ∀ {A : Around} {E : Value → Shared → Prop} {s : Shared} {k : κ} {a : Addr} {Q : Bool → Shared → Prop}, hk.is s.heap k a → Q false s → wpAny (model P w) A (ofAClassStatement 8 (.ref a)) Q E s
  val : ∀ {A : Around} {E : Value → Shared → Prop} {s : Shared} {k : κ} {a : Addr} {Q : Bool → Shared → Prop}, hk.is s.heap k a → (∀ b, Q b s) → wpAny (model P w) A (hashByValue 8 (.ref a)) Q E s
  keep : ∀ {h h' : Heap} {k : κ} {a : Addr}, hk.is h k a → (∀ b o, h.get? b = some o → (∀ es ep t, o.data ≠ .set es ep t) → h'.get? b = some o) → hk.is h' k a

section
variable {P : Program} {w : World} {κ : Type} [DecidableEq κ] {hk : HeapKind P w κ} {A : Around} {E : Value → Shared → Prop} {s : Shared}
abbrev rowL (hk : HeapKind P w κ) (L : List (Addr × κ)) : List (Int × Value) := L.map fun m => (hk.hash m.2, Value.ref m.1)
abbrev hashL (hk : HeapKind P w κ) (L : List (Addr × κ)) : List Int := L.map fun m => hk.hash m.2
/-- the object at a is a set with the members L -/
structure Sg (hk : HeapKind P w κ) (h : Heap) (a : Addr) (L : List (Addr × κ)) (es : Array (Int × Value)) (ep : Nat) (t : SetTable) : Prop where
  obj : ∃ o, h.get? a = some o ∧ o.ExactSet ∧ o.data = .set es ep t
  row : es.toList = rowL hk L
  tab : TabOk t (hashL hk L)
  one : (L.map (·.2)).Nodup
  are : ∀ m ∈ L, hk.is h m.2 m.1
  room : L.length * 5 < t.mask * 3
  few : L.length < 64
variable {a : Addr} {L : List (Addr × κ)} {es : Array (Int × Value)} {ep : Nat} {t : SetTable}
theorem row_size (h : es.toList = rowL hk L) : es.size = L.length := by
  have := congrArg List.length h
  simpa using this
theorem fits_of (h1 : t.place.size = es.size) (h2 : t.dummies = #[]) (h3 : es.size ≤ t.mask) : t.fits es.size = true := by
  unfold SetTable.fits SetTable.fill
  simp [h1, h2, h3]
theorem Sg.fits (S : Sg hk s.heap a L es ep t) : t.fits es.size = true := by
  have e1 := row_size S.row
  have e2 := S.tab.sz
  have e3 := S.room
  simp only [List.length_map] at e2
  exact fits_of (by omega) S.tab.dm (by omega)
theorem Sg.ent (S : Sg hk s.heap a L es ep t) {i : Nat} {m : Addr × κ} (h : L[i]? = some m) : es[i]? = some (hk.hash m.2, Value.ref m.1) := by
  rw [← Array.getElem?_toList, S.row, List.getElem?_map, h]
  rfl
theorem Sg.live (S : Sg hk s.heap a L es ep t) {i j : Nat} (h : t.place.toList[i]? = some j) : ∃ m, L[i]? = some m ∧ m ∈ L := by
  have e2 := S.tab.sz
  simp only [List.length_map] at e2
  have hl : i < L.length := by
    have := (List.getElem?_eq_some_iff.mp h).1
    rw [Array.length_toList] at this
    omega
  exact ⟨L[i], List.getElem?_eq_getElem hl, List.getElem_mem hl⟩
/-- the search shows nothing -/
theorem unseen (el : Eld hk) {k : κ} {b : Addr} {Q : Bool → Shared → Prop} (hb : hk.is s.heap k b) {ys : List Value} (hy : ∀ y ∈ ys, ∃ k' c, y = Value.ref c ∧ hk.is s.heap k' c) (h : Q false s) : wpAny (model P w) A (searchCouldBeSeen (.ref b) ys) Q E s := by
  unfold searchCouldBeSeen
  refine wpAny_bind (wpAny_forIn_list _ (fun l r z => r.1 = none ∧ z = s ∧ ∀ y ∈ l, ∃ k' c, y = Value.ref c ∧ hk.is s.heap k' c) _ ?_ ?_ _ _ ⟨rfl, rfl, hy⟩)
  · rintro y l r z ⟨h1, h2, h3⟩
    subst h2
    obtain ⟨k', c, e, hc⟩ := h3 y List.mem_cons_self
    subst e
    have h4 : ∀ y ∈ l, ∃ k' c, y = Value.ref c ∧ hk.is z.heap k' c := fun u hu => h3 u (List.mem_cons_of_mem _ hu)
    dsimp only
    by_cases hv : (b == c || (carriedByValue (.ref b) && carriedByValue (.ref c))) = true
    · exact wp_if_pos hv (wpAny_pure ⟨rfl, rfl, h4⟩)
    · refine wp_if_neg hv (wpAny_bind (hk.quiet hb ?_))
      simp only [Bool.not_true, Bool.false_eq_true, if_false]
      refine wpAny_bind (hk.quiet hc ?_)
      simp only [Bool.not_true, Bool.false_eq_true, if_false]
      refine wpAny_bind (el.cls hb ?_)
      simp only [Bool.false_eq_true, if_false]
      refine wpAny_bind (el.cls hc ?_)
      simp only [Bool.false_eq_true, if_false]
      exact wpAny_pure ⟨rfl, rfl, h4⟩
  · rintro ⟨r1, r2⟩ z ⟨h1, h2, _⟩
    simp only at h1
    subst h1
    subst h2
    exact wpAny_pure h
/-- the search for k, begun at its c-th step; K: where the way meets an empty place -/
theorem look_from (el : Eld hk) (S : Sg hk s.heap a L es ep t) {x : Addr} {k : κ} (hx : hk.is s.heap k x) (hr : hk.room A) {K : Nat} (b1 : K < 10 * SetTable.turns t.mask) (b2 : way t.mask (hk.hash k) K ∉ t.place.toList)
    (b3 : ∀ c, c < K → way t.mask (hk.hash k) c ∈ t.place.toList) {Q : SetFound → Shared → Prop} (yes : k ∈ L.map (·.2) → Q (.there none) s) (no : k ∉ L.map (·.2) → Q (.free (way t.mask (hk.hash k) K) false) s) (f : Nat) :
    ∀ (c : Nat) (sd : Option SetTable.Probe), sd.getD (t.probeStart (hk.hash k)) = stp t (hk.hash k) c → c ≤ K → K < f + c → (∀ (i : Nat) m, L[i]? = some m → m.2 = k → ∃ d, c ≤ d ∧ d < K ∧ t.place.toList[i]? = some (way t.mask (hk.hash k) d)) →
      wpAny (model P w) A (setSearchFrom a (.ref x) (hk.hash k) true f sd) Q E s := by
  obtain ⟨o, ho, hex, hd⟩ := S.obj
  have gw : ¬ t.gaveWay = true := by
    unfold SetTable.gaveWay
    rw [mask_odd S.tab.mok]
    decide
  induction f with
  | zero => intro c sd _ h1 h2 _; exact absurd h2 (by omega)
  | succ f ih =>
    intro c sd hsd hc hf hin
    have J : ∀ d, (nth t.mask (stp t (hk.hash k) c) d).j = way t.mask (hk.hash k) (c + d) := fun d => congrArg SetTable.Probe.j (stp_on t _ c d)
    have hash_at : ∀ (i : Nat) m, L[i]? = some m → ((es[i]?).map (·.1)).getD 0 = hk.hash m.2 := fun i m e => by rw [S.ent e]; rfl
    have key := go_spec t S.tab.ris S.tab.dm (fun i => (es[i]?.map (·.1)).getD 0) (hk.hash k) (10 * SetTable.turns t.mask) (K - c) (stp t (hk.hash k) c) (stp_clean _ _ _) (by omega) (fun d hd => by rw [J]; exact b3 _ (by omega)) (by rw [J, show c + (K - c) = K by omega]; exact b2)
    rw [setSearchFrom_succ]
    refine wpAny_bind (wpAny_setState_of ho hd S.fits (wp_if_neg gw ?_))
    try refine wpAny_bind (wpAny_pure ?_)
    dsimp only
    rw [hsd]
    rcases key with ⟨d, i, k1, k2, k3, k4, k5⟩ | ⟨k4, k5⟩
    · have k5' : t.probe (fun i => (es[i]?.map (·.1)).getD 0) (hk.hash k) (stp t (hk.hash k) c) = some (.candidate (way t.mask (hk.hash k) (c + d)) i (stp t (hk.hash k) (c + (d + 1)))) := by
        rw [← J, ← stp_on]
        exact k5
      rw [k5']
      dsimp only
      rw [J] at k2
      obtain ⟨m, hm, hmL⟩ := S.live k2
      have cont : wpAny (model P w) A (searchRest a (.ref x) (hk.hash k) true f es t (way t.mask (hk.hash k) (c + d)) i (stp t (hk.hash k) (c + (d + 1)))) Q E s := by
        unfold searchRest
        rw [S.ent hm]
        dsimp only
        refine wpAny_bind (wpAny_holding (hk.eqBool hr (S.are m hmL) hx (wpAny_bind (wpAny_setState_of ho hd S.fits ?_))))
        dsimp only
        by_cases hmk : m.2 = k
        · exact wp_if_pos (by simp [hmk]) (wpAny_pure (yes (List.mem_map.mpr ⟨m, hmL, hmk⟩)))
        · refine wp_if_neg (by simp [hmk]) ?_
          try refine wpAny_bind (wpAny_pure ?_)
          have sl : t.slot (way t.mask (hk.hash k) (c + d)) = .live i := slot_live S.tab.ris k2
          rw [sameMem]
          dsimp only
          simp only [if_true, sl, S.ent hm]
          refine wpAny_bind (wpAny_isSame_ref_self (wpAny_bind (wpAny_pure ?_)))
          simp only [if_true]
          refine wp_if_neg (by simp [hmk]) (ih (c + (d + 1)) _ rfl (by omega) (by omega) fun i' m' e1 e2 => ?_)
          obtain ⟨d', h1, h2, h3⟩ := hin i' m' e1 e2
          refine ⟨d', ?_, h2, h3⟩
          apply Classical.byContradiction
          intro hlt
          by_cases hq : d' = c + d
          · rw [hq] at h3
            have sl2 := slot_live S.tab.ris h3
            rw [sl] at sl2
            injection sl2 with sl2
            rw [← sl2, hm] at e1
            cases e1
            exact hmk e2
          · refine k4 (d' - c) i' (by omega) (by rw [J, show c + (d' - c) = d' by omega]; exact h3) ?_
            show ((es[i']?).map (·.1)).getD 0 = hk.hash k
            rw [hash_at i' m' e1, e2]
      by_cases hl : t.led = true
      · refine wp_if_neg (by simp [hl]) ?_
        try refine wpAny_bind (wpAny_pure ?_)
        exact cont
      · refine wp_if_pos (by simp [hl]) (wpAny_bind (unseen el hx (fun y hy => ?_) (wp_if_neg (by decide) ?_)))
        · obtain ⟨e, he, rfl⟩ := List.mem_map.mp hy
          have he1 : e ∈ es.toList := by
            have : e ∈ es ∧ e.1 = hk.hash k := by simpa using he
            simpa using this.1
          rw [S.row] at he1
          obtain ⟨m', hm', rfl⟩ := List.mem_map.mp he1
          exact ⟨m'.2, m'.1, rfl, S.are m' hm'⟩
        · try refine wpAny_bind (wpAny_pure ?_)
          exact cont
    · have k5' : t.probe (fun i => (es[i]?.map (·.1)).getD 0) (hk.hash k) (stp t (hk.hash k) c) = some (.empty (way t.mask (hk.hash k) K) none) := by
        have e : way t.mask (hk.hash k) K = (nth t.mask (stp t (hk.hash k) c) (K - c)).j := by rw [J, show c + (K - c) = K by omega]
        rw [e]
        exact k5
      rw [k5']
      dsimp only
      refine wpAny_pure (no fun hmem => ?_)
      obtain ⟨m, hm, e2⟩ := List.mem_map.mp hmem
      obtain ⟨i, hi, e1⟩ := List.getElem_of_mem hm
      have e1 : L[i]? = some m := by rw [List.getElem?_eq_getElem hi, e1]
      obtain ⟨d', h1, h2, h3⟩ := hin i m e1 e2
      refine k4 (d' - c) i (by omega) (by rw [J, show c + (d' - c) = d' by omega]; exact h3) ?_
      show ((es[i]?).map (·.1)).getD 0 = hk.hash k
      rw [hash_at i m e1, e2]
theorem look_up (el : Eld hk) (S : Sg hk s.heap a L es ep t) {x : Addr} {k : κ} (hx : hk.is s.heap k x) (hr : hk.room A) {Q : SetFound → Shared → Prop} (yes : k ∈ L.map (·.2) → Q (.there none) s)
    (no : ∀ K, k ∉ L.map (·.2) → way t.mask (hk.hash k) K ∉ t.place.toList → (∀ c, c < K → way t.mask (hk.hash k) c ∈ t.place.toList) → Q (.free (way t.mask (hk.hash k) K) false) s) : wpAny (model P w) A (setSearch a (.ref x) (hk.hash k) true) Q E s := by
  have hroom := S.room
  obtain ⟨K, b1, b2, b3⟩ := S.tab.first (by rw [List.length_map]; omega) (hk.hash k)
  have hK : K < 100000 := by
    unfold SetTable.turns at b1
    rcases S.tab.mok with e | e | e <;> omega
  unfold setSearch
  refine look_from el S hx hr b1 b2 b3 yes (fun n => no K n b2 b3) 100000 0 none rfl (Nat.zero_le _) (by omega) fun i m e1 e2 => ?_
  have hil : i < t.place.toList.length := by
    have h1 := (List.getElem?_eq_some_iff.mp e1).1
    have h2 := S.tab.sz
    rw [List.length_map] at h2
    rw [Array.length_toList]
    omega
  have e3 : (hashL hk L)[i]? = some (hk.hash k) := by rw [List.getElem?_map, e1, ← e2]; rfl
  obtain ⟨d, h1, h2⟩ := S.tab.before b2 e3 (List.getElem?_eq_getElem hil)
  exact ⟨d, Nat.zero_le _, h1, by rw [List.getElem?_eq_getElem hil, h2]⟩
theorem still (el : Eld hk) {h h' : Heap} {o : Obj} {es : Array (Int × Value)} {ep : Nat} {t : SetTable} (ho : h.get? a = some o) (hd : o.data = .set es ep t) (sb : Heap.SameBut a h h') {k : κ} {b : Addr} (hb : hk.is h k b) : hk.is h' k b :=
  el.keep hb fun c u hc hn => by
    have : c ≠ a := fun e => by
      subst e
      rw [ho] at hc
      cases hc
      exact hn _ _ _ hd
    rw [sb.2 c this]
    exact hc
/-- the table is laid anew, larger -/
theorem relay (el : Eld hk) {o : Obj} (ho : s.heap.get? a = some o) (hex : o.ExactSet) (hd : o.data = .set es ep t) (hrow : es.toList = rowL hk L) (h1 : t.place.size = es.size) (h2 : t.dummies = #[]) (h3 : es.size ≤ t.mask) (one : (L.map (·.2)).Nodup) (are : ∀ m ∈ L, hk.is s.heap m.2 m.1) (few : L.length < 64)
    {n M : Nat} (hn : SetTable.sizeAbove n - 1 = M) (hM : MaskOk M) (hn2 : SetTable.sizeAbove n ≤ 128) (hr : L.length * 5 < M * 3) {Q : Unit → Shared → Prop} (hQ : ∀ h' L' es' ep' t', Heap.SameBut a s.heap h' → Sg hk h' a L' es' ep' t' → L'.Perm L → Q () { s with heap := h' }) : wpAny (model P w) A (setRelay a n) Q E s := by
  have sz := row_size hrow
  obtain ⟨t', ord, e, hp, T, em, _, _, _⟩ := relaid_ok t (hs := es.map (·.1)) (wanted := n) hn hM (by rw [Array.size_map]; omega)
  rw [Array.size_map, sz] at hp
  have hlt : ∀ i ∈ ord.toList, i < L.length := fun i hi => List.mem_range.mp (hp.mem_iff.mp hi)
  have r1 : (ord.filterMap (es[·]?)).toList = rowL hk (ord.toList.filterMap fun i => L[i]?) := by
    rw [Array.toList_filterMap]
    show _ = (List.filterMap (fun i => L[i]?) ord.toList).map _
    rw [← pick_map, show (L.map fun m => (hk.hash m.2, Value.ref m.1)) = es.toList from hrow.symm]
    refine congrArg (fun g => ord.toList.filterMap g) (funext fun i => ?_)
    exact (Array.getElem?_toList).symm
  have r2 := pick_perm hp
  have r3 : (ord.toList.map fun i => (es.map (·.1)).getD i 0) = hashL hk (ord.toList.filterMap fun i => L[i]?) := by
    show _ = (List.filterMap (fun i => L[i]?) ord.toList).map _
    rw [← pick_map, pick_getD _ 0 _ (by simpa using hlt)]
    refine List.map_congr_left fun i hi => ?_
    have e2 : (es.map (·.1)).toList = hashL hk L := by
      rw [Array.toList_map, hrow, List.map_map]
      rfl
    rw [show (L.map fun m => hk.hash m.2) = (es.map (·.1)).toList from e2.symm, List.getD_eq_getElem?_getD, Array.getD_eq_getD_getElem?, Array.getElem?_toList]
  rw [r3] at T
  generalize hL : (ord.toList.filterMap fun i => L[i]?) = L' at r1 r2 T
  have sz' := row_size r1
  have ll := r2.length_eq
  rw [setRelay_eq]
  refine wpAny_bind (wpAny_setState_of ho hd (fits_of h1 h2 h3) (wp_if_neg (by rw [sizeLine_eq]; omega) ?_))
  try refine wpAny_bind (wpAny_pure ?_)
  dsimp only
  rw [e]
  dsimp only
  refine wpAny_bind (wp_if_neg (by simp only [bne_iff_ne, ne_eq, Decidable.not_not]; omega) ?_)
  try refine wpAny_bind (wpAny_pure ?_)
  refine wpAny_pure ?_
  dsimp only
  refine wpAny_storeSet_of ho hd ?_ (by rw [sizeLine_eq]; omega)
  have sb : Heap.SameBut a s.heap (s.heap.update a (Obj.putSet (ord.filterMap (es[·]?)) t')) := Heap.SameBut.update ..
  refine hQ _ L' (ord.filterMap (es[·]?)) (ep + 1) t' sb ⟨⟨_, store_at ho hd, ⟨hex.1, hex.2.1, hex.2.2⟩, rfl⟩, r1, T, (r2.map _).nodup_iff.mpr one, fun m hm => still el ho hd sb (are m (r2.mem_iff.mp hm)), by rw [em, ll]; exact hr, by omega⟩ r2
/-- one is added -/
theorem add_one (el : Eld hk) (S : Sg hk s.heap a L es ep t) {x : Addr} {k : κ} (hx : hk.is s.heap k x) (hr : hk.room A) (hf : L.length + 1 < 64) {Q : Bool → Shared → Prop}
    (hQ : ∀ b h' L' es' ep' t', Heap.SameBut a s.heap h' → Sg hk h' a L' es' ep' t' → (k ∈ L.map (·.2) ∧ L' = L) ∨ (k ∉ L.map (·.2) ∧ L'.Perm ((x, k) :: L)) → Q b { s with heap := h' }) : wpAny (model P w) A (setAddHashed a (.ref x) (hk.hash k)) Q E s := by
  obtain ⟨o, ho, hex, hd⟩ := S.obj
  have sz := row_size S.row
  have hroom := S.room
  unfold setAddHashed
  refine wpAny_holding ?_
  rw [show (100000 : Nat) = 99999 + 1 from rfl, setAddHashedIn_succ]
  refine wpAny_bind (wpAny_setState_of ho hd S.fits (wp_if_neg (by simp [byScan, Value.scannable]) ?_))
  try refine wpAny_bind (wpAny_pure ?_)
  refine wpAny_bind (look_up el S hx hr (fun hm => ?_) fun K hm b2 b3 => ?_)
  · exact wpAny_pure (hQ false s.heap L es ep t (Heap.SameBut.refl a s.heap) S (.inl ⟨hm, rfl⟩))
  dsimp only
  refine wpAny_bind (wpAny_setState_of ho hd S.fits ?_)
  dsimp only
  obtain ⟨p1, p2, p3, p4, _, p6, _, _, p9⟩ := S.tab.put b2 b3
  generalize hpt : t.put (way t.mask (hk.hash k) K) = pt at p1 p3 p4 p6 p9 ⊢
  obtain ⟨t1, p⟩ := pt
  dsimp only at p1 p3 p4 p6 p9 ⊢
  subst p1
  generalize SetTable.below t.place (way t.mask (hk.hash k) K) = p at p2 p3 ⊢
  have pm : (L.take p ++ (x, k) :: L.drop p).Perm ((x, k) :: L) := put_perm L p (x, k)
  have r1 : (SetTable.insertAt es p (hk.hash k, Value.ref x)).toList = rowL hk (L.take p ++ (x, k) :: L.drop p) := by
    rw [SetTable.toList_insertAt, S.row]
    simp [rowL]
  have r2 : (hashL hk L).take p ++ hk.hash k :: (hashL hk L).drop p = hashL hk (L.take p ++ (x, k) :: L.drop p) := by simp [hashL]
  rw [r2] at p3
  generalize (L.take p ++ (x, k) :: L.drop p) = L1 at pm r1 p3
  generalize SetTable.insertAt es p (hk.hash k, Value.ref x) = es1 at r1 ⊢
  have sz1 := row_size r1
  have ll := pm.length_eq
  rw [List.length_cons] at ll
  have one1 : (L1.map (·.2)).Nodup := (pm.map _).nodup_iff.mpr (List.nodup_cons.mpr ⟨hm, S.one⟩)
  have go : ∀ b : Bool, wpAny (model P w) A (do
      storeSet a es1 (if b = true then t1 else { t1 with plain := false })
      if (!false && (if b = true then t1 else { t1 with plain := false } : SetTable).tooFull) = true then setRelay a (SetTable.grown (es.size + 1))
      pure true) Q E s := fun b => by
    have T2 : TabOk (if b = true then t1 else { t1 with plain := false }) (hashL hk L1) ∧ (if b = true then t1 else { t1 with plain := false } : SetTable).mask = t.mask ∧ (if b = true then t1 else { t1 with plain := false } : SetTable).fill = L.length + 1 := by
      have p9' : t1.fill = L.length + 1 := by rw [p9, List.length_map]
      cases b
      · exact ⟨⟨p3.ris, p3.dm, p3.sz, p3.mok, p3.bd, p3.reach⟩, p4, p9'⟩
      · exact ⟨p3, p4, p9'⟩
    generalize (if b = true then t1 else { t1 with plain := false } : SetTable) = t2 at T2 ⊢
    obtain ⟨T, m2, f2⟩ := T2
    have ts := T.sz
    rw [List.length_map] at ts
    refine wpAny_bind (wpAny_storeSet_of ho hd ?_ (by rw [sizeLine_eq]; omega))
    have sb : Heap.SameBut a s.heap (s.heap.update a (Obj.putSet es1 t2)) := Heap.SameBut.update ..
    have ho1 := store_at (es' := es1) (t' := t2) ho hd
    generalize s.heap.update a (Obj.putSet es1 t2) = h1 at sb ho1 ⊢
    have are1 : ∀ m ∈ L1, hk.is h1 m.2 m.1 := fun m hm' => by
      rcases List.mem_cons.mp (pm.mem_iff.mp hm') with e | e
      · rw [e]; exact still el ho hd sb hx
      · exact still el ho hd sb (S.are m e)
    by_cases hfull : t2.tooFull = true
    · have hfl := hfull
      unfold SetTable.tooFull at hfl
      rw [decide_eq_true_eq, f2] at hfl
      have big : ∀ M, SetTable.sizeAbove (SetTable.grown (es.size + 1)) - 1 = M → MaskOk M → SetTable.sizeAbove (SetTable.grown (es.size + 1)) ≤ 128 → L1.length * 5 < M * 3 → ∀ Q' : Unit → Shared → Prop, (∀ s', (∃ h' L' es' ep' t', s' = { s with heap := h' } ∧ Heap.SameBut a s.heap h' ∧ Sg hk h' a L' es' ep' t' ∧ L'.Perm L1) → Q' () s') → wpAny (model P w) A (setRelay a (SetTable.grown (es.size + 1))) Q' E { s with heap := h1 } := fun M m1 m3 m4 m5 Q' hq => by
        refine relay (s := { s with heap := h1 }) el ho1 ⟨hex.1, hex.2.1, hex.2.2⟩ rfl r1 (by omega) T.dm ?_ one1 are1 (by omega) m1 m3 m4 m5 fun h2 L2 es2 ep2 t3 sb2 S2 pm2 => hq _ ⟨h2, L2, es2, ep2, t3, rfl, sb.trans sb2, S2, pm2⟩
        rw [m2]
        rcases S.tab.mok with e | e | e <;> omega
      have two : (t.mask = 7 ∧ L.length = 4) ∨ (t.mask = 31 ∧ L.length = 18) := by
        rw [m2] at hfl
        rcases S.tab.mok with e | e | e
        · exact .inl ⟨e, by omega⟩
        · exact .inr ⟨e, by omega⟩
        · omega
      have big2 : ∀ Q' : Unit → Shared → Prop, (∀ s', (∃ h' L' es' ep' t', s' = { s with heap := h' } ∧ Heap.SameBut a s.heap h' ∧ Sg hk h' a L' es' ep' t' ∧ L'.Perm L1) → Q' () s') → wpAny (model P w) A (setRelay a (SetTable.grown (es.size + 1))) Q' E { s with heap := h1 } := by
        rcases two with ⟨_, e⟩ | ⟨_, e⟩
        · have e' : es.size + 1 = 5 := by omega
          rw [e'] at big ⊢
          exact big 31 (by rw [size_20]) (.inr (.inl rfl)) (by rw [size_20]; decide) (by omega)
        · have e' : es.size + 1 = 19 := by omega
          rw [e'] at big ⊢
          exact big 127 (by rw [size_76]) (.inr (.inr rfl)) (by rw [size_76]; decide) (by omega)
      have fin : ∀ s', (∃ h' L' es' ep' t', s' = { s with heap := h' } ∧ Heap.SameBut a s.heap h' ∧ Sg hk h' a L' es' ep' t' ∧ L'.Perm L1) → wpAny (model P w) A (pure true) Q E s' := by
        rintro s' ⟨h2, L2, es2, ep2, t3, rfl, sb2, S2, pm2⟩
        exact wpAny_pure (hQ true h2 L2 es2 ep2 t3 sb2 S2 (.inr ⟨hm, pm2.trans pm⟩))
      first
        | exact wp_if_pos (by simp [hfull]) (wpAny_bind (big2 _ fin))
        | exact wpAny_bind (wp_if_pos (by simp [hfull]) (big2 _ fin))
    · have hfl := hfull
      unfold SetTable.tooFull at hfl
      rw [decide_eq_true_eq, f2] at hfl
      have fin : wpAny (model P w) A (pure true) Q E { s with heap := h1 } := wpAny_pure (hQ true h1 L1 es1 (ep + 1) t2 sb ⟨⟨_, ho1, ⟨hex.1, hex.2.1, hex.2.2⟩, rfl⟩, r1, T, one1, are1, by omega, by omega⟩ (.inr ⟨hm, pm⟩))
      first
        | exact wp_if_neg (by simp [hfull]) fin
        | exact wpAny_bind (wp_if_neg (by simp [hfull]) (wpAny_pure fin))
        | (refine wp_if_neg (by simp [hfull]) ?_; exact wpAny_bind (wpAny_pure fin))
  by_cases hpl : t1.plain = true
  · first
      | exact wpAny_bind (wp_if_pos hpl (el.val hx go))
      | exact wp_if_pos hpl (wpAny_bind (el.val hx go))
  · first
      | exact wpAny_bind (wp_if_neg hpl (wpAny_pure (go true)))
      | exact wp_if_neg hpl (wpAny_bind (wpAny_pure (go true)))
      | exact wp_if_neg hpl (go true)
/-- the members, as far as the walk has come -/
structure Half (ks : List (Addr × κ)) (i : Nat) (L : List (Addr × κ)) : Prop where
  old : ∀ m ∈ L, m ∈ ks.take i
  all : ∀ m ∈ ks.take i, m.2 ∈ L.map (·.2)
  len : L.length ≤ i
theorem Half.next {ks L L' : List (Addr × κ)} {i : Nat} {m : Addr × κ} (g : Half ks i L) (e : ks[i]? = some m) (h : (m.2 ∈ L.map (·.2) ∧ L' = L) ∨ (m.2 ∉ L.map (·.2) ∧ L'.Perm (m :: L))) : Half ks (i + 1) L' := by
  have et : ks.take (i + 1) = ks.take i ++ [m] := by rw [List.take_succ, e]; rfl
  rcases h with ⟨h1, rfl⟩ | ⟨_, h2⟩
  · refine ⟨fun n hn => et ▸ List.mem_append_left _ (g.old n hn), fun n hn => ?_, Nat.le_succ_of_le g.len⟩
    rw [et] at hn
    rcases List.mem_append.mp hn with z | z
    · exact g.all n z
    · rw [List.mem_singleton.mp z]; exact h1
  · refine ⟨fun n hn => ?_, fun n hn => ?_, by rw [h2.length_eq]; exact Nat.succ_le_succ g.len⟩
    · rw [et]
      rcases List.mem_cons.mp (h2.mem_iff.mp hn) with z | z
      · exact List.mem_append_right _ (List.mem_singleton.mpr z)
      · exact List.mem_append_left _ (g.old n z)
    · rw [(h2.map _).mem_iff]
      rw [et] at hn
      rcases List.mem_append.mp hn with z | z
      · exact List.mem_cons_of_mem _ (g.all n z)
      · rw [List.mem_singleton.mp z]; exact List.mem_cons_self
theorem sg_new {h : Heap} (ho : h.get? a = some (sObj w)) : Sg hk h a [] #[] 0 (.fresh 0 0 (!w.params.followText "set-order")) :=
  ⟨⟨_, ho, ⟨rfl, rfl, rfl⟩, rfl⟩, rfl, ⟨List.Pairwise.nil, rfl, rfl, .inl rfl, (fun x hx => nomatch hx), fun i h j hi => (by simp at hi)⟩, List.nodup_nil, (fun m hm => nomatch hm), (by show 0 * 5 < 7 * 3; decide), (by show 0 < 64; decide)⟩
theorem Sg.keep (el : Eld hk) {h h' : Heap} (S : Sg hk h a L es ep t) (k : ∀ b o, h.get? b = some o → b = a ∨ (∀ es ep t, o.data ≠ .set es ep t) → h'.get? b = some o) : Sg hk h' a L es ep t := by
  obtain ⟨o, h1, h2, h3⟩ := S.obj
  exact ⟨⟨o, k a o h1 (.inl rfl), h2, h3⟩, S.row, S.tab, S.one, fun m hm => el.keep (S.are m hm) fun b u q1 q2 => k b u q1 (.inr q2), S.room, S.few⟩
/-- set.update's walk over a tuple -/
theorem upd_walk (el : Eld hk) {I : Addr} {fp wr : List Addr} {G : Array GenState → Array GenState → Prop} {n : Nat} {Pv : Nat → Value → Prop} {St : Nat → Shared → Prop} {R : Result → Shared → Prop} (W : WalksS P w A.in1 I fp wr G n Pv St) (hS1 : a ∉ fp) (ks : List (Addr × κ)) (hn : n = ks.length) (hf : ks.length < 64)
    (hv : ∀ i v, Pv i v → ∃ m, ks[i]? = some m ∧ v = .ref m.1) (h0 : Heap) (h1 : ∀ m ∈ ks, hk.is h0 m.2 m.1) (h2 : h0.get? a = none) (h3 : ∀ b ∈ wr, h0.get? b = none) (hr : hk.room A.in1) (r : Nat) :
    ∀ (i : Nat) (s : Shared) L es ep t, n = i + r → St i s → (∀ b o, h0.get? b = some o → s.heap.get? b = some o) → Sg hk s.heap a L es ep t → Half ks i L →
      (∀ s' L es ep t, Moved (a :: wr) G s s' → Sg hk s'.heap a L es ep t → Half ks n L → (∀ b o, h0.get? b = some o → s'.heap.get? b = some o) → R (.ok (.ret .none)) s') → codeAny (model P w) A (.builtin "set.update.loop" ⟨[.ref a, .ref I], []⟩) R s := by
  have hSw : a ∉ wr := fun z => hS1 (W.sub _ z)
  have up : ∀ b ∈ wr, b ∈ a :: wr := fun b hb => List.mem_cons_of_mem _ hb
  have old : ∀ {s s' : Shared}, Moved wr G s s' → (∀ b o, h0.get? b = some o → s.heap.get? b = some o) → ∀ b o, h0.get? b = some o → s'.heap.get? b = some o := fun m k b o e => m.heap b o (fun z => by rw [h3 b z] at e; cases e) (k b o e)
  have sg : ∀ {s s' : Shared} {i : Nat} {L : List (Addr × κ)} {es ep t}, Moved wr G s s' → (∀ b o, h0.get? b = some o → s'.heap.get? b = some o) → Half ks i L → Sg hk s.heap a L es ep t → Sg hk s'.heap a L es ep t := fun m k g S => by
    obtain ⟨o, q1, q2, q3⟩ := S.obj
    exact ⟨⟨o, m.heap _ o hSw q1, q2, q3⟩, S.row, S.tab, S.one, fun p hp => el.keep (h1 p (List.mem_of_mem_take (g.old p hp))) fun b u z _ => k b u z, S.room, S.few⟩
  induction r with
  | zero =>
    intro i s L es ep t hi hst hkp S g hR
    have hi : n = i := hi
    subst hi
    refine codeAny_builtin F.entry_set_update_loop ?_
    rw [Around.under_plainId F.plain_set_update_loop _]
    show wpAny _ A.in1 (pyNext (.ref I) >>= _) _ _ s
    refine wpAny_bind (W.done s _ _ hst fun s' hm => ?_)
    have k' := old hm hkp
    exact wpAny_pure (hR s' L es ep t (hm.mono up) (sg hm k' g S) g k')
  | succ r ih =>
    intro i s L es ep t hi hst hkp S g hR
    refine codeAny_builtin F.entry_set_update_loop ?_
    rw [Around.under_plainId F.plain_set_update_loop _]
    show wpAny _ A.in1 (pyNext (.ref I) >>= _) _ _ s
    refine wpAny_bind (W.item i s _ _ (by omega) hst fun v s' hP hst' hm => ?_)
    obtain ⟨m, em, rfl⟩ := hv i v hP
    have k' := old hm hkp
    have S' := sg hm k' g S
    have hx : hk.is s'.heap m.2 m.1 := el.keep (h1 m (List.mem_of_getElem? em)) fun b u z _ => k' b u z
    show wpAny _ A.in1 (holding [Value.ref m.1] (setAdd a (.ref m.1)) >>= _) _ _ s'
    refine wpAny_bind (wpAny_holding ?_)
    unfold setAdd
    refine wpAny_holding (wpAny_bind (hk.pyHash hr hx ?_))
    refine add_one (s := { s' with toks := s'.toks + hk.draws m.2 }) el S' hx hr (by have := g.len; omega) fun b h' L' es' ep' t' sb S2 c => ?_
    have k2 : ∀ b o, h0.get? b = some o → h'.get? b = some o := fun b o e => (sb.2 b (fun z => by rw [z, h2] at e; cases e)).trans (k' b o e)
    refine wpAny_pure ⟨plainId_quiet F.plain_set_update_loop _, ih (i + 1) _ L' es' ep' t' (by omega) (W.frame _ s' _ _ hst' (Nat.le_add_right _ _) fun b hb o e => ?_) k2 S2 (g.next em c) fun s2 L2 es2 ep2 t2 m2 S3 g3 k3 => ?_⟩
    · rw [sb.2 b (fun z => hS1 (z ▸ hb))]; exact e
    · refine hR s2 L2 es2 ep2 t2 (Moved.trans W.gtrans ((hm.mono up).then_heap (Nat.le_add_right _ _) fun b o hb e => ?_) m2) S3 g3 k3
      rw [sb.2 b (fun z => hb (z ▸ List.mem_cons_self))]; exact e
theorem set_of_kind (el : Eld hk) {l : Addr} {xs : Array Value} (ks : List (Addr × κ)) {Q : Value → Shared → Prop} (hh : A.handled = none) (hl : s.heap.IsTuple l xs) (hx : xs.toList = ks.map fun m => Value.ref m.1) (hm : ∀ m ∈ ks, hk.is s.heap m.2 m.1) (hf : ks.length < 64) (hr : hk.room A.in1.in1.in1)
    (h : ∀ (h' : Heap) (tk : Nat) L es ep t, Sg hk h' s.heap.objs.size L es ep t → Half ks ks.length L → (∀ b o, s.heap.get? b = some o → h'.get? b = some o) → Q (.ref s.heap.objs.size) { s with heap := h', toks := tk }) : wpAny (model P w) A (call (.type "set") [.ref l]) Q E s := by
  have hz : xs.size = ks.length := by
    have := congrArg List.length hx
    rwa [Array.length_toList, List.length_map] at this
  refine set_of_tuple hh hl (fun h' => ∃ L es ep t, Sg hk h' s.heap.objs.size L es ep t ∧ Half ks ks.length L) (fun R hR => ?_) fun h' tk ⟨L, es, ep, t, q1, q2⟩ q3 => h h' tk L es ep t q1 q2 q3
  have hll : l < s.heap.objs.size := by obtain ⟨o, ho, _⟩ := hl; exact Heap.lt_size ho
  have hA : A.in1.in1.in1.handled = none := by simp [hh]
  have sz : (s.heap.push (sObj w)).objs.size = s.heap.objs.size + 1 := Heap.size_push ..
  have W := (Walks.tuple (prog := P) (w := w) hA (s.heap.objs.size + 1) l (Nat.ne_of_lt (Nat.lt_succ_of_lt hll)) xs).toS
  have g0 : (s.heap.push (sObj w)).get? s.heap.objs.size = some (sObj w) := Heap.get?_push_size _ rfl
  have g1 : (s.heap.push (sObj w)).IsTuple l xs := by
    obtain ⟨o, ho, hc, n, hd⟩ := hl
    exact ⟨o, Heap.get?_push_of_some _ ho, hc, n, hd⟩
  have hI : ((s.heap.push (sObj w)).push { cls := .type "tuple_iterator", data := .fields #[.ref l, .int 0 0] }).get? (s.heap.objs.size + 1) = some { cls := .type "tuple_iterator", data := .fields #[.ref l, .int 0 0] } := by
    have := Heap.get?_push_size (s.heap.push (sObj w)) (o := ({ cls := .type "tuple_iterator", data := .fields #[.ref l, .int 0 0] } : Obj)) rfl
    rwa [sz] at this
  refine upd_walk (A := A.in1.in1) el W ?_ ks hz hf (fun i v hv => ?_) s.heap hm (fresh_none (Nat.le_refl _)) (fun b hb => fresh_none ?_) hr xs.size 0 _ [] #[] 0 _ (by omega) ?_ (fun b o e => Heap.get?_push_of_some _ (Heap.get?_push_of_some _ e)) (sg_new (Heap.get?_push_of_some _ g0)) ⟨(fun m hm => nomatch hm), (fun m hm => by simp at hm), Nat.le_refl _⟩ fun s' L es ep t mv S g k => ?_
  · simp only [List.mem_cons, List.not_mem_nil, or_false, not_or]
    exact ⟨Nat.ne_of_lt (Nat.lt_succ_self _), Nat.ne_of_gt hll⟩
  · have q : xs.toList[i]? = some v := by rw [Array.getElem?_toList]; exact hv
    rw [hx, List.getElem?_map] at q
    cases e : ks[i]? with
    | none => rw [e] at q; cases q
    | some m => rw [e] at q; exact ⟨m, rfl, (Option.some.inj q).symm⟩
  · rw [List.mem_singleton.mp hb]
    exact Nat.le_succ _
  · exact ⟨⟨_, hI, rfl, rfl⟩, g1.push _⟩
  · exact hR s' mv.gens mv.drawn mv.os k ⟨L, es, ep, t, S, hz ▸ g⟩
end
/-! tuples of ints and texts -/
section
variable {P : Program} {w : World}
theorem mix_vals {k : List Key} {vs : List Value} (h : ItemsAre (mixKind P w) k vs) : ∀ v ∈ vs, (∃ i t, v = Value.int i t) ∨ ∃ x t, v = Value.str x t := by
  induction h with
  | nil => intro v hv; cases hv
  | cons h1 _ ih =>
    intro v hv
    rcases List.mem_cons.mp hv with e | hv
    · rcases keyIs_shape h1 with ⟨i, t, _, e2⟩ | ⟨x, t, _, e2⟩
      · exact .inl ⟨i, t, e.trans (by first | exact e2 | exact e2.symm)⟩
      · exact .inr ⟨x, t, e.trans (by first | exact e2 | exact e2.symm)⟩
    · exact ih v hv
theorem eld_mix : Eld (tupleKind (mixKind P w)) where
  cls := fun {A E s k a Q} hk h => by
    have hT := IsTupleKey.typeIs hk
    obtain ⟨o, items, n, ho, _, hd, hi⟩ := hk
    have hv := mix_vals hi
    unfold ofAClassStatement
    refine wpAny_bind (wpAny_typeOf hT ?_)
    dsimp only
    simp only [show (("tuple" : String) == "tuple") = true from by decide, if_true]
    refine wpAny_bind (wpAny_pure ?_)
    simp only [Bool.not_true, Bool.false_eq_true, if_false]
    refine wpAny_bind (wpAny_seqItems ho hd ?_)
    dsimp only
    refine wpAny_bind ?_
    rw [← Array.forIn_toList]
    refine wpAny_forIn_list _ (fun l r z => r.1 = none ∧ z = s ∧ ∀ v ∈ l, (∃ i t, v = Value.int i t) ∨ ∃ x t, v = Value.str x t) _ ?_ ?_ _ _ ⟨rfl, rfl, hv⟩
    · rintro v l r z ⟨_, rfl, h3⟩
      have h4 := fun u hu => h3 u (List.mem_cons_of_mem _ hu)
      have e : ofAClassStatement 7 v = pure false := by
        rcases h3 v List.mem_cons_self with ⟨i, t, rfl⟩ | ⟨x, t, rfl⟩ <;> rfl
      rw [e]
      refine wpAny_bind (wpAny_pure ?_)
      simp only [Bool.false_eq_true, if_false]
      exact wpAny_pure ⟨rfl, rfl, h4⟩
    · rintro ⟨r1, r2⟩ z ⟨h1, rfl, _⟩
      simp only at h1
      subst h1
      exact wpAny_pure h
  val := fun {A E s k a Q} hk h => by
    have hT := IsTupleKey.typeIs hk
    obtain ⟨o, items, n, ho, _, hd, hi⟩ := hk
    have hv := mix_vals hi
    unfold hashByValue
    refine wpAny_bind (wpAny_specialOf hT F.slot_tuple_hash.lookup ?_)
    show wpAny _ _ (seqItems? (.ref a) >>= _) _ _ s
    refine wpAny_bind (wpAny_seqItems ho hd ?_)
    refine wpAny_bind ?_
    show wpAny _ _ (forIn items _ _) _ _ s
    rw [← Array.forIn_toList]
    refine wpAny_forIn_list _ (fun l r z => z = s ∧ ∀ v ∈ l, (∃ i t, v = Value.int i t) ∨ ∃ x t, v = Value.str x t) _ ?_ ?_ _ _ ⟨rfl, hv⟩
    · rintro v l r z ⟨rfl, h3⟩
      have h4 := fun u hu => h3 u (List.mem_cons_of_mem _ hu)
      rcases h3 v List.mem_cons_self with ⟨i, t, rfl⟩ | ⟨x, t, rfl⟩
      · have e : hashByValue 7 (.int i t) = pure true := rfl
        rw [e]
        refine wpAny_bind (wpAny_pure ?_)
        simp only [Bool.not_true, Bool.false_eq_true, if_false]
        exact wpAny_pure ⟨rfl, h4⟩
      · have e : hashByValue 7 (.str x t) = pure false := rfl
        rw [e]
        refine wpAny_bind (wpAny_pure ?_)
        simp only [Bool.not_false, if_true]
        exact wpAny_pure (wpAny_pure (h _))
    · rintro ⟨r1, r2⟩ z ⟨rfl, _⟩
      cases r1 with
      | none => exact wpAny_pure (h _)
      | some b => exact wpAny_pure (h _)
  keep := fun {h h' k a} hk kp => by
    obtain ⟨o, items, n, ho, hc, hd, hi⟩ := hk
    exact ⟨o, items, n, kp a o ho (fun es ep t e => by rw [hd] at e; cases e), hc, hd, hi⟩
end
end Qs

set_option Elab.async false
set_option linter.all false
set_option maxRecDepth 100000
set_option maxHeartbeats 4000000
/-! Calls with keywords, with starred arguments, of defs with a star parameter, of static methods; len(set(..)) of tuples with texts. -/
namespace Qm
open PySem PySem.Spec PyProof.Rows L2 Pd
/-! ### len(set(t)) -/
def keyD : Dt → Option Key
  | .int i => some (.inl i)
  | .str x => some (.inr x)
  | _ => none
def keysD : List Dt → Option (List Key)
  | [] => some []
  | d :: ds => match keyD d, keysD ds with
    | some k, some ks => some (k :: ks)
    | _, _ => none
def keyss : List Dt → Option (List (List Key))
  | [] => some []
  | .tup xs :: ds => match keysD xs, keyss ds with
    | some k, some ks => some (k :: ks)
    | _, _ => none
  | _ :: _ => none
def setLenK : Dt → Option Dt
  | .tup ds => match intsOf ds with
    | some ns => if ns.length < 64 then some (.int ((ddp ns).length : Nat)) else none
    | none => match keyss ds with
      | some kss => if kss.length < 64 then some (.int ((ddp kss).length : Nat)) else none
      | none => none
  | _ => none
section
variable {K : PySem.W.Frag} {G : Hp}
theorem keysD_dr : ∀ {ds : List Dt} {ks : List Key} {vs : List V}, keysD ds = some ks → DrAll K G vs ds → vs = ks.map kV
  | [], _, _, h, .nil => by cases h; rfl
  | d :: ds, ks, _, h, .cons r t => by
    unfold keysD at h
    cases q1 : keyD d with
    | none => rw [q1] at h; cases h
    | some k =>
      cases q2 : keysD ds with
      | none => rw [q1, q2] at h; cases h
      | some ks' =>
        rw [q1, q2] at h
        cases h
        rw [List.map_cons, ← keysD_dr q2 t]
        cases d <;> cases q1 <;> cases r <;> rfl
theorem keyss_dr : ∀ {ds : List Dt} {kss : List (List Key)} {vs : List V}, keyss ds = some kss → DrAll K G vs ds → ∃ ms : List (Addr × List Key), vs = ms.map (fun m => V.ref m.1) ∧ ms.map (·.2) = kss ∧ ∀ m ∈ ms, SqT K G m.1 (m.2.map kV)
  | [], _, _, h, .nil => by cases h; exact ⟨[], rfl, rfl, fun p hp => nomatch hp⟩
  | d :: ds, kss, _, h, .cons r t => by
    cases d with
    | tup xs =>
      unfold keyss at h
      cases q1 : keysD xs with
      | none => rw [q1] at h; cases h
      | some k =>
        cases q2 : keyss ds with
        | none => rw [q1, q2] at h; cases h
        | some kss' =>
          rw [q1, q2] at h
          cases h
          obtain ⟨ms, e1, e2, e3⟩ := keyss_dr q2 t
          cases r with
          | @tup a us _ h1 h2 =>
            have := keysD_dr q1 h2
            subst this
            refine ⟨(a, k) :: ms, by rw [e1]; rfl, by rw [← e2]; rfl, fun p hp => ?_⟩
            rcases List.mem_cons.mp hp with rfl | hp
            · exact h1
            · exact e3 p hp
    | _ => cases h
end
section
variable {X : Cx}
theorem isM_of {pins : List (Addr × Obj)} {σ : L2.St} {H : Hp} {s : Shared} {a : Addr} {k : List Key} (I : Inv X pins σ H s) (h : SqT X.K H a (k.map kV)) : IsTupleKey (mixKind X.prog X.w) s.heap k a := by
  obtain ⟨its, rv, ⟨o, ho, hc, n, hd⟩, _⟩ := I.tuple h
  exact ⟨o, _, n, ho, hc, hd, items_are rv⟩
theorem refs_of {α : Type} : ∀ {ms : List (Addr × α)} {us : List Value}, Vals (ms.map fun p => V.ref p.1) us → us = ms.map fun p => Value.ref p.1
  | [], _, .nil => rfl
  | _ :: ms, _, .cons r t => by
    cases r
    rw [refs_of (ms := ms) t]
    rfl
def tLenSetK (K : PySem.W.Frag) (ta : TE) : TE := fun σ H Q => ta σ H fun x H1 => (∃ (l : Addr) (ns : List Int), x = V.ref l ∧ SqT K H1 l (ns.map V.int) ∧ ns.length < 64 ∧ Q (.int ((ddp ns).length : Nat)) H1) ∨
  ∃ (l : Addr) (ms : List (Addr × List Key)), x = V.ref l ∧ SqT K H1 l (ms.map fun p => V.ref p.1) ∧ (∀ p ∈ ms, SqT K H1 p.1 (p.2.map kV)) ∧ ms.length < 64 ∧ Q (.int ((ddp (ms.map (·.2))).length : Nat)) H1
theorem pe_lenSetK {a : Expr} {ta : TE} {p p2 q pos : Pos} (hc : X.calm = true) (hu : X.A.units + 65 < cLine) (hg : Gl X "len") (hm : X.mg "len" = none) (hg2 : Gl X "set") (hm2 : X.mg "set" = none) (ha : PE X a ta)
    (na : starEach [a] X.env = (false, eval a X.env) :: starEach [] X.env := by rfl) : PE X (.Call (.Name "len" p) [.Call (.Name "set" p2) [a] [] q] [] pos) (tLenSetK X.K ta) := by
  refine ⟨fun pins s σ H Q I h => Call_ (ld_blt I hg hm PySem.boot_len (PyProof.Rows.callWith_builtin1 (PyProof.Rows.args_cons ?_ rfl) rfl rfl))⟩
  refine Call_ (ld_blt I hg2 hm2 PyProof.Rows.boot_set (PyProof.Rows.callWith_type1 (PyProof.Rows.args_cons (thn (ha.run pins s σ H _ I h) fun v s1 ⟨x, H1, I1, r1, q1⟩ => PyProof.Rows.args_nil ?_) na) na rfl))
  rcases q1 with ⟨l, ns, rfl, hq, hl, q1⟩ | ⟨l, ks, rfl, hq, hk, hl, q1⟩
  · cases r1
    obtain ⟨its, rv, pt, hz⟩ := I1.tuple hq
    refine call_set_tupI ns (I1.ok.hd hc) (show s1.heap.IsTuple l its.toArray from pt) (ints_of_vals rv) (by unfold scanBound; omega) fun h' tk c R1 hcn kp => PyProof.Rows.args_nil ?_
    obtain ⟨o, es, ep, t, ho, hex, hd, g, nd, hm', hb, hf, hn, hr, hl2⟩ := R1
    have I2 : Inv X pins σ H1 { s1 with heap := h', toks := tk } := I1.kept kp
    have e : es.size = (ddp ns).length := by
      have := len_of_same nd (nodup_ddp ns) fun j => by rw [← hm' j, decide_eq_true_eq, mem_ddp]
      rwa [List.length_map, Array.length_toList] at this
    have hs := ddp_len ns
    exact call_len_set ho hex hd hf (by rw [e]; omega) ⟨.int ((ddp ns).length : Nat), H1, I2.tok _, ⟨_, by rw [e]⟩, q1⟩
  · cases r1
    obtain ⟨its, rv, pt, hz⟩ := I1.tuple hq
    refine Qs.set_of_kind (P := X.prog) (w := X.w) (hk := tupleKind (mixKind X.prog X.w)) Qs.eld_mix ks (I1.ok.hd hc) (show s1.heap.IsTuple l its.toArray from pt) (by simpa using refs_of rv) (fun p hp => isM_of I1 (hk p hp)) hl (by show _ < _; simp; omega) fun h' tk M es ep t S g kp => PyProof.Rows.args_nil ?_
    obtain ⟨o, ho, hex, hd⟩ := S.obj
    have I2 : Inv X pins σ H1 { s1 with heap := h', toks := tk } := I1.kept kp
    have e : es.size = (ddp (ks.map (·.2))).length := by
      have h1 := Qs.row_size S.row
      have h2 := len_of_same S.one (nodup_ddp (ks.map (·.2))) fun j => by
        rw [mem_ddp]
        constructor
        · intro z
          obtain ⟨p, hp, rfl⟩ := List.mem_map.mp z
          exact List.mem_map_of_mem (List.mem_of_mem_take (g.old p hp))
        · intro z
          obtain ⟨p, hp, rfl⟩ := List.mem_map.mp z
          exact g.all p (by rw [List.take_length]; exact hp)
      rw [List.length_map] at h2
      omega
    have hs := ddp_len (ks.map (·.2))
    rw [List.length_map] at hs
    exact call_len_set ho hex hd (Qs.Sg.fits (s := { s1 with heap := h' }) S) (by rw [e]; omega) ⟨.int ((ddp (ks.map (·.2))).length : Nat), H1, I2.tok _, ⟨_, by rw [e]⟩, q1⟩
end
section
variable {X : Cx} {Γ : Cn} {F : Fm} [L : Lk X Γ]
variable {e e1 e2 e3 tg o : Expr} {es : List Expr} {pos p apos : Pos} {m m1 m2 m3 : M Dt} {x : Str} {i j k l n : Nat}
theorem qe_setLenK {p2 q2 : Pos} (hg : Gl X "len") (hm : X.mg "len" = none) (hg2 : Gl X "set") (hm2 : X.mg "set" = none) (h : PM X Γ e m) (na : starEach [e] X.env = (false, eval e X.env) :: starEach [] X.env := by rfl) :
    PM X Γ (.Call (.Name "len" p) [.Call (.Name "set" p2) [e] [] q2] [] pos) (mUn setLenK m) := by
  obtain ⟨te, h1, h2⟩ := h
  refine ⟨_, pe_lenSetK L.calm L.un hg hm hg2 hm2 h1 na, fun F δ G H σ Q at_ k => h2 F δ G H σ _ at_ ((OkR.bnd k).imp fun d δ1 G1 s1 k1 v H1 a1 r1 => ?_)⟩
  obtain ⟨z, ez, k2⟩ := OkR.opt k1
  rw [L.k]
  unfold setLenK at ez
  split at ez
  · rename_i ds
    split at ez
    · rename_i ns hns
      split at ez
      · rename_i hl
        cases ez
        have := intsOf_some hns
        subst this
        cases r1 with
        | @tup a us _ q1 q2 =>
          have := drall_int q2
          subst this
          exact .inl ⟨a, ns, rfl, sqT_mono a1.sub q1, hl, k2 G1 (Same.refl _) _ H1 a1 (.int _)⟩
      · cases ez
    · split at ez
      · rename_i kss hk
        split at ez
        · rename_i hl
          cases ez
          cases r1 with
          | @tup a us _ q1 q2 =>
            obtain ⟨ks, e1, e2, e3⟩ := keyss_dr hk q2
            subst e1
            subst e2
            rw [List.length_map] at hl
            exact .inr ⟨a, ks, rfl, sqT_mono a1.sub q1, fun p hp => sqT_mono a1.sub (e3 p hp), hl, k2 G1 (Same.refl _) _ H1 a1 (.int _)⟩
        · cases ez
      · cases ez
  · cases ez
end

/-! ### a def, called with values by position and by name -/
def FnU (P : Program) (w : World) (K : PySem.W.Frag) (mg : Str → Option Value) (base : Heap) (CX : CXT) (k : Nat) (f : Addr) (ks : List Str) (sp : Sp) : Prop :=
  ∀ (A : Around) (outer : List Env) (s : Shared) (H : Hp) (us ws : List Value) (vs zs : List V) (Q : VK) (E : XK), Room k A → Env0 P w K mg base A outer s H → Vals vs us → Vals zs ws → zs.length = ks.length → sp (vs ++ zs) H Q E →
    codeAny (model P w) A (.call (.ref f) ⟨us, ks.zip ws⟩) (CR CX outer P w H s Q E) s
/-- what leaves the callee is what this context wants -/
def PassS (CX : CXT) (X : Cx) (E : L2.St → XK) : Prop := ∀ (pins : List (Addr × Obj)) (σ : L2.St) (H : Hp) (s : Shared) (e : Value) (s' : Shared), Inv X pins σ H s → CX X.stack H s (E σ) e s' → X.xe e s'
theorem passS0 {X : Cx} {E : L2.St → XK} : PassS L2.CX0 X E := fun _ _ _ _ _ _ _ z => z.elim
/-- the arguments of a call, by position (the last ones may be starred) and by name -/
def PAK (X : Cx) (es : List Expr) (kws : List Keyword) (ks : List Str) (t : TA) : Prop :=
  ∀ (pos : Pos) (f : Value) (first : List Value) (pins : List (Addr × Obj)) (s : Shared) (σ : L2.St) (H : Hp) (Qv : Value → Shared → Prop) (Q : List V → Hp → Prop), PySem.W.keepIn X.K f = true → Inv X pins σ H s → t σ H Q →
    (∀ us ws vs zs H1 s1, Inv X pins σ H1 s1 → Vals vs us → Vals zs ws → zs.length = ks.length → Q (vs ++ zs) H1 → wpAny (model X.prog X.w) X.A (call f (first ++ us) (ks.zip ws)) Qv X.xe s1) →
    wpAny (model X.prog X.w) X.A (callWith pos f first (backTo pos (starEach es X.env)) (backToKw pos (keywordEach kws X.env))) Qv X.xe s
def tKw (n : Nat) (t : TA) : TA := fun σ H Q => t σ H fun zs H1 => zs.length = n ∧ Q zs H1
def tApp (t u : TA) : TA := fun σ H Q => t σ H fun vs H1 => u σ H1 fun zs H2 => Q (vs ++ zs) H2
section
variable {X : Cx} {CX : CXT} {k : Nat} {f C : Addr} {ks : List Str} {sp : Sp} {E : L2.St → XK} {x m : Str} {e o : Expr} {es : List Expr} {kws : List Keyword} {t tk : TA} {p pos apos : Pos} {ta : TE}
theorem pak_nil : PAK X [] [] [] tNil := fun pos f first pins s σ H Qv Q hk I h k => PySem.W.callWith_K0 I.kIn hk (k [] [] [] [] H s I .nil .nil rfl h)
theorem pak_pos (ha : PA X (e :: es) t) (he : starEach (e :: es) X.env = (false, eval e X.env) :: starEach es X.env := by rfl) (hpl : ∀ pos, (backTo pos (starEach es X.env)).any (·.1) = false := by intro _; rfl) : PAK X (e :: es) [] [] t :=
  fun pos f first pins s σ H Qv Q hk I h k => PySem.W.callWith_K (h₀ := X.base) I.ok.mod.kin hk (thn (ha.run pos pins s σ H _ I h) fun us s1 ⟨vs, H1, I1, r, q⟩ => ⟨I1.kIn, k us [] vs [] H1 s1 I1 r .nil rfl (by rw [List.append_nil]; exact q)⟩) he (hpl pos)
theorem pak_star (ha : PA X (e :: es) t) (he : starEach (e :: es) X.env = (false, eval e X.env) :: starEach es X.env := by rfl) (hpl : ∀ pos, (backTo pos (starEach es X.env)).any (·.1) = true := by intro _; rfl) : PAK X (e :: es) [] [] t :=
  fun pos f first pins s σ H Qv Q hk I h k => PySem.W.callWith_S2 (h₀ := X.base) I.ok.mod.kin hk (thn (ha.run pos pins s σ H _ I h) fun us s1 ⟨vs, H1, I1, r, q⟩ => ⟨I1.kIn, k us [] vs [] H1 s1 I1 r .nil rfl (by rw [List.append_nil]; exact q)⟩) he (hpl pos)
theorem pak_kw0 (hkw : PK X kws tk) (hall : ∀ pos, (backToKw pos (keywordEach kws X.env)).all (·.1.isSome) = true := by intro _; rfl) (hks : ∀ pos, (backToKw pos (keywordEach kws X.env)).filterMap (·.1) = ks := by intro _; rfl)
    (hpl : ∀ pos, ((backTo pos (starEach [] X.env)).any (·.1) || (backToKw pos (keywordEach kws X.env)).any (·.1.isNone)) = false := by intro _; rfl) : PAK X [] kws ks (tKw ks.length tk) :=
  fun pos f first pins s σ H Qv Q hk I h k => PySem.W.callWith_KW0 (h₀ := X.base) I.ok.mod.kin hk (hall pos) (thn (hkw.run pos pins s σ H _ I h) fun ws s2 ⟨zs, H2, I2, rz, l2, q2⟩ => ⟨I2.kIn, by
    rw [hks pos]
    have := k [] ws [] zs H2 s2 I2 .nil rz l2 q2
    simpa using this⟩) (hpl pos)
theorem pak_kw (ha : PA X (e :: es) t) (hkw : PK X kws tk) (hall : ∀ pos, (backToKw pos (keywordEach kws X.env)).all (·.1.isSome) = true := by intro _; rfl) (hks : ∀ pos, (backToKw pos (keywordEach kws X.env)).filterMap (·.1) = ks := by intro _; rfl)
    (he : starEach (e :: es) X.env = (false, eval e X.env) :: starEach es X.env := by rfl) (hpl : ∀ pos, ((backTo pos (starEach (e :: es) X.env)).any (·.1) || (backToKw pos (keywordEach kws X.env)).any (·.1.isNone)) = false := by intro _; rfl) : PAK X (e :: es) kws ks (tApp t (tKw ks.length tk)) :=
  fun pos f first pins s σ H Qv Q hk I h k => PySem.W.callWith_KW (h₀ := X.base) I.ok.mod.kin hk (hall pos) (thn (ha.run pos pins s σ H _ I h) fun us s1 ⟨vs, H1, I1, r, q⟩ => thn (hkw.run pos pins s1 σ H1 _ I1 q) fun ws s2 ⟨zs, H2, I2, rz, l2, q2⟩ => ⟨I2.kIn, by
    rw [hks pos]
    exact k us ws vs zs H2 s2 I2 r rz l2 q2⟩) (hpl pos) he
theorem run_U {pins : List (Addr × Obj)} {σ : L2.St} {H : Hp} {s : Shared} {Q : VK} {us ws : List Value} {vs zs : List V} (F : FnU X.prog X.w X.K X.mg X.base CX k f ks sp) (hr : Room k X.A) (hx : PassS CX X E) (I : Inv X pins σ H s) (r : Vals vs us) (rz : Vals zs ws) (hl : zs.length = ks.length) (h : sp (vs ++ zs) H Q (E σ)) :
    wpAny (model X.prog X.w) X.A (call (.ref f) us (ks.zip ws)) (EP X pins σ Q) X.xe s := by
  refine wpAny_call (codeAny_mono (F X.A X.stack s H us ws vs zs Q (E σ) hr I.env0 r rz hl h) fun r s' hq => ?_)
  match r, hq with
  | .error er, hq => exact hx pins σ H s er s' I hq
  | .ok .next, hq => exact False.elim hq
  | .ok .brk, hq => exact False.elim hq
  | .ok .cont, hq => exact False.elim hq
  | .ok (.ret u), hq => exact I.after hq
theorem run_mkU {pins : List (Addr × Obj)} {σ : L2.St} {H : Hp} {s : Shared} {Q : VK} {us ws : List Value} {vs zs : List V} (M : Mk X.K C f) (F : FnU X.prog X.w X.K X.mg X.base CX k f ks sp) (hr : Room (k + 1) X.A) (hx : PassS CX X E) (I : Inv X pins σ H s) (r : Vals vs us) (rz : Vals zs ws) (hl : zs.length = ks.length)
    (h : ∀ x dx, H x = none → H dx = none → dx ≠ x → sp (.ref x :: (vs ++ zs)) (upd (upd H dx (.own x)) x (.ins C dx [])) (fun v H2 => v = .non ∧ Q (.ref x) H2) (E σ)) : wpAny (model X.prog X.w) X.A (call (.ref C) us (ks.zip ws)) (EP X pins σ Q) X.xe s := by
  have hq := h (s.heap.objs.size + 1) s.heap.objs.size (I.hok.fresh (Nat.le_succ _)) (I.hok.fresh (Nat.le_refl _)) (Nat.ne_of_lt (Nat.lt_succ_self _))
  have J := Inv.made (C := C) I
  refine wpAny_call (make_map (f := f) I.kIn M.makes M.init (beq_iff_eq.mp M.fn) (codeAny_mono (F _ X.stack _ _ (Value.ref (s.heap.objs.size + 1) :: us) ws (V.ref (s.heap.objs.size + 1) :: vs) zs _ (E σ) (hr.make C us (ks.zip ws)) (J.env0.make C us (ks.zip ws)) (.cons rfl r) rz hl hq) fun r s' hq' => ?_))
  match r, hq' with
  | .error er, hq' => exact hx pins σ _ _ er s' J hq'
  | .ok .next, hq' => exact False.elim hq'
  | .ok .brk, hq' => exact False.elim hq'
  | .ok .cont, hq' => exact False.elim hq'
  | .ok (.ret u), hq' =>
    obtain ⟨v, H', I3, rv, ev, q3⟩ := J.after hq'
    subst ev
    exact ⟨rv, ⟨V.ref (s.heap.objs.size + 1), H', I3, rfl, q3⟩⟩
def tU (t : TA) (sp : Sp) (E : L2.St → XK) : TE := fun σ H Q => t σ H fun xs H1 => sp xs H1 Q (E σ)
theorem pe_U (F : FnU X.prog X.w X.K X.mg X.base CX k f ks sp) (hr : Room k X.A) (hk : PySem.W.keepIn X.K (.ref f) = true) (hg : Gl X x) (hm : X.mg x = some (.ref f)) (hx : PassS CX X E) (ha : PAK X es kws ks t) (hd : (x == ("__debug__" : Str)) = false := by decide) : PE X (.Call (.Name x p) es kws pos) (tU t sp E) :=
  ⟨fun pins s σ H Q I h => wpAny_Call_Name_kw (ld_glob I hg hm (ha pos _ [] pins s σ H _ _ hk I h fun us ws vs zs H1 s1 I1 r rz hl q => run_U F hr hx I1 r rz hl q) hd)⟩
def tMkU (C : Addr) (t : TA) (sp : Sp) (E : L2.St → XK) : TE := fun σ H Q => t σ H fun xs H1 => ∀ x dx, H1 x = none → H1 dx = none → dx ≠ x → sp (.ref x :: xs) (upd (upd H1 dx (.own x)) x (.ins C dx [])) (fun v H2 => v = .non ∧ Q (.ref x) H2) (E σ)
theorem pe_mkU (M : Mk X.K C f) (F : FnU X.prog X.w X.K X.mg X.base CX k f ks sp) (hr : Room (k + 1) X.A) (hg : Gl X x) (hm : X.mg x = some (.ref C)) (hx : PassS CX X E) (ha : PAK X es kws ks t) (hd : (x == ("__debug__" : Str)) = false := by decide) : PE X (.Call (.Name x p) es kws pos) (tMkU C t sp E) :=
  ⟨fun pins s σ H Q I h => wpAny_Call_Name_kw (ld_glob I hg hm (ha pos _ [] pins s σ H _ _ M.kp I h fun us ws vs zs H1 s1 I1 r rz hl q => run_mkU M F hr hx I1 r rz hl q) hd)⟩
def tMethU (C : Addr) (m : Str) (ta : TE) (t : TA) (sp : Sp) (E : L2.St → XK) : TE := fun σ H Q => ta σ H fun x H1 => ∃ a dx fs, x = .ref a ∧ H1 a = some (.ins C dx fs) ∧ fs.lookup m = none ∧ t σ H1 fun xs H2 => sp (.ref a :: xs) H2 Q (E σ)
theorem pe_methU {pl : Sem Bool} (ho : PE X o ta) (c : Cls X.K C) (hm : Meth X.K C m f) (F : FnU X.prog X.w X.K X.mg X.base CX k f ks sp) (hr : Room k X.A) (hx : PassS CX X E) (ha : PAK X es kws ks t)
    (ht : eval (.Call (.Attribute o m apos) es kws pos) X.env = (do
      let ov ← eval o X.env
      standAt apos.atName
      let (f, first) ← holding [ov] (getMethod ov m pl)
      callWith pos f first (backTo pos (starEach es X.env)) (backToKw pos (keywordEach kws X.env))) := by rfl) : PE X (.Call (.Attribute o m apos) es kws pos) (tMethU C m ta t sp E) := by
  refine ⟨fun pins s σ H Q I h => PySem.W.methodCall_KW (pl := pl) (thn (ho.run pins s σ H _ I h) fun u s1 ⟨x, H1, I1, rx, a, dx, fs, ex, ea, l, q⟩ => ?_) ht⟩
  subst ex
  obtain rfl : u = Value.ref a := rx
  exact getmeth_ok I1 ea c hm l (ha pos _ [.ref a] pins s1 σ H1 _ _ hm.kp I1 q fun us ws vs zs H2 s2 I2 r rz hl q2 => run_U (us := .ref a :: us) (vs := .ref a :: vs) F hr hx I2 (.cons rfl r) rz hl q2)
/-- C.m is a static method: its record at p, its def at f -/
structure SMet (K : PySem.W.Frag) (C : Addr) (m : Str) (p f : Addr) : Prop where
  rd : ClX.CRead K C (.type "type")
  at_ : PySem.W.findCls K (.ref C) (.type "type") m = some (.get (.builtin "staticmethod.__get__") (.ref p) .none (.ref C))
  rc : ∃ rest, PySem.W.recIn K p "staticmethod" = some (.ref f :: rest)
  kp : PySem.W.keepIn K (.ref f) = true
theorem getstat_ok {pins : List (Addr × Obj)} {σ : L2.St} {H : Hp} {s : Shared} {q : Addr} {pl : Sem Bool} {A : Around} {Ex : Value → Shared → Prop} {Q : Value × List Value → Shared → Prop} (I : Inv X pins σ H s) (c : SMet X.K C m q f) (h : ∀ s', Inv X pins σ H s' → Q (.ref f, []) s') : wpAny (model X.prog X.w) A (getMethod (.ref C) m pl) Q Ex s := by
  obtain ⟨rest, hp⟩ := c.rc
  refine PySem.W.method_cls I.kIn c.rd.ga (PySem.W.cls_bind I.kIn c.rd.rd c.at_ ?_)
  exact wpAny_call (PySem.W.sm_get (s := { s with toks := s.toks + 1 }) I.kIn hp (PySem.W.handed_on rfl (h _ (I.tok _))))
def tStat (C : Addr) (ta : TE) (t : TA) (sp : Sp) (E : L2.St → XK) : TE := fun σ H Q => ta σ H fun x H1 => x = .ref C ∧ t σ H1 fun xs H2 => sp xs H2 Q (E σ)
theorem pe_stat {q : Addr} {pl : Sem Bool} (ho : PE X o ta) (c : SMet X.K C m q f) (F : FnU X.prog X.w X.K X.mg X.base CX k f ks sp) (hr : Room k X.A) (hx : PassS CX X E) (ha : PAK X es kws ks t)
    (ht : eval (.Call (.Attribute o m apos) es kws pos) X.env = (do
      let ov ← eval o X.env
      standAt apos.atName
      let (f, first) ← holding [ov] (getMethod ov m pl)
      callWith pos f first (backTo pos (starEach es X.env)) (backToKw pos (keywordEach kws X.env))) := by rfl) : PE X (.Call (.Attribute o m apos) es kws pos) (tStat C ta t sp E) := by
  refine ⟨fun pins s σ H Q I h => PySem.W.methodCall_KW (pl := pl) (thn (ho.run pins s σ H _ I h) fun u s1 ⟨x, H1, I1, rx, ex, q⟩ => ?_) ht⟩
  subst ex
  obtain rfl : u = Value.ref C := rx
  exact getstat_ok I1 c fun s2 I2 => ha pos _ [] pins s2 σ H1 _ _ c.kp I2 q fun us ws vs zs H2 s3 I3 r rz hl q2 => run_U F hr hx I3 r rz hl q2
end
end Qm

set_option Elab.async false
set_option linter.all false
set_option maxRecDepth 100000
set_option maxHeartbeats 4000000
namespace Qm
open PySem PySem.Spec PyProof.Rows L2 Pd
/-! ### arguments -/
def mCons (m : M Dt) (md : M (List Dt)) : M (List Dt) := fun δ => (m δ).bnd fun d δ1 => (md δ1).bnd fun ds δ2 => .ok (d :: ds) δ2
def itemsD : Dt → Option (List Dt)
  | .tup ds => some ds
  | .lst ds => some ds
  | _ => none
def mStar (m : M Dt) (md : M (List Dt)) : M (List Dt) := fun δ => (m δ).bnd fun d δ1 => (opt (itemsD d) δ1).bnd fun xs δ1 => (md δ1).bnd fun ds δ2 => .ok (xs ++ ds) δ2
def mApp2 (a b : M (List Dt)) : M (List Dt) := fun δ => (a δ).bnd fun ds δ1 => (b δ1).bnd fun es δ2 => .ok (ds ++ es) δ2
def PAKm (X : Cx) (Γ : Cn) (es : List Expr) (kws : List Keyword) (ks : List Str) (md : M (List Dt)) : Prop := ∃ t, PAK X es kws ks t ∧ SoD Γ t md
section
variable {X : Cx} {Γ : Cn} {F : Fm} [L : Lk X Γ]
variable {e e1 e2 e3 tg o : Expr} {es : List Expr} {pos p apos : Pos} {m m1 m2 m3 : M Dt} {x : Str} {i j k l n : Nat} {md : M (List Dt)} {ms : List (M Dt)} {kws : List Keyword} {ks : List Str}
theorem qd_nil : PD X Γ [] (mAll []) := qa_nil
theorem qd_cons (ha : PM X Γ e m) (hr : PD X Γ es md) (hs : starEach (e :: es) X.env = (false, eval e X.env) :: starEach es X.env := by rfl) : PD X Γ (e :: es) (mCons m md) := by
  obtain ⟨ta, h1, h2⟩ := ha
  obtain ⟨tb, h3, h4⟩ := hr
  exact ⟨_, pa_cons h1 h3 hs, fun F δ G H σ Q a k => h2 F δ G H σ _ a ((OkR.bnd k).imp fun d δ1 G1 s1 k1 v H1 a1 r1 => h4 F δ1 G1 H1 σ _ a1 ((OkR.bnd k1).imp fun ds δ2 G2 s2 k2 vs H2 a2 r2 => k2 G2 (Same.refl _) (v :: vs) H2 a2 (.cons (r1.mono s2) r2)))⟩
theorem qd_star {q : Pos} (ha : PM X Γ e m) (hr : PD X Γ es md) (hs : starEach (.Starred e q :: es) X.env = (true, eval e X.env) :: starEach es X.env := by rfl) : PD X Γ (.Starred e q :: es) (mStar m md) := by
  obtain ⟨ta, h1, h2⟩ := ha
  obtain ⟨tb, h3, h4⟩ := hr
  refine ⟨_, StX.pa_star h1 h3 hs, fun F δ G H σ Q a k => h2 F δ G H σ _ a ((OkR.bnd k).imp fun d δ1 G1 s1 k1 v H1 a1 r1 => ?_)⟩
  obtain ⟨xs, e, k2⟩ := OkR.opt (OkR.bnd k1)
  have go : ∀ (b : Addr) (ys : List V), DrAll Γ.K G1 ys xs → tb σ H1 fun zs H2 => Q (ys ++ zs) H2 := fun b ys r => h4 F δ1 G1 H1 σ _ a1 ((OkR.bnd (k2 G1 (Same.refl _))).imp fun ds δ2 G2 s2 k3 zs H2 a2 r2 => k3 G2 (Same.refl _) (ys ++ zs) H2 a2 ((r.mono s2).append r2))
  rw [L.k]
  cases d with
  | tup ds =>
    cases e
    cases r1 with
    | @tup b ys _ q1 q2 => exact ⟨b, ys, rfl, .inl (sqT_mono a1.sub q1), go b ys q2⟩
  | lst ds =>
    cases e
    cases r1 with
    | @lst b ys _ q1 q2 => exact ⟨b, ys, rfl, .inr (SqL.of (a1.sub _ _ q1)), go b ys q2⟩
  | _ => cases e
theorem qx_nil : PAKm X Γ [] [] [] (mAll []) := ⟨_, pak_nil, fun F δ G H σ Q a k => k G (Same.refl _) [] H a .nil⟩
theorem qx_pos (ha : PD X Γ (e :: es) md) (he : starEach (e :: es) X.env = (false, eval e X.env) :: starEach es X.env := by rfl) (hpl : ∀ pos, (backTo pos (starEach es X.env)).any (·.1) = false := by intro _; rfl) : PAKm X Γ (e :: es) [] [] md := let ⟨_, h1, h2⟩ := ha; ⟨_, pak_pos h1 he hpl, h2⟩
theorem qx_star (ha : PD X Γ (e :: es) md) (he : starEach (e :: es) X.env = (false, eval e X.env) :: starEach es X.env := by rfl) (hpl : ∀ pos, (backTo pos (starEach es X.env)).any (·.1) = true := by intro _; rfl) : PAKm X Γ (e :: es) [] [] md := let ⟨_, h1, h2⟩ := ha; ⟨_, pak_star h1 he hpl, h2⟩
theorem so_kw {tk : TA} (h2 : SoD Γ tk (mAll ms)) (hl : ms.length = n) : SoD Γ (tKw n tk) (mAll ms) := fun F δ G H σ Q a k => by
  refine h2 F δ G H σ _ a ?_
  cases hm : mAll ms δ with
  | bad => rw [hm] at k; exact k.elim
  | exc x δ' => rw [hm] at k; exact k
  | ok ds δ1 =>
    rw [hm] at k
    exact fun G1 s1 vs H1 a1 r1 => ⟨by rw [r1.length, mAll_len hm, hl], k G1 s1 vs H1 a1 r1⟩
theorem qx_kw0 (hkw : PKm X Γ kws (mAll ms)) (hl : ms.length = ks.length := by rfl) (hall : ∀ pos, (backToKw pos (keywordEach kws X.env)).all (·.1.isSome) = true := by intro _; rfl) (hks : ∀ pos, (backToKw pos (keywordEach kws X.env)).filterMap (·.1) = ks := by intro _; rfl)
    (hpl : ∀ pos, ((backTo pos (starEach [] X.env)).any (·.1) || (backToKw pos (keywordEach kws X.env)).any (·.1.isNone)) = false := by intro _; rfl) : PAKm X Γ [] kws ks (mAll ms) := let ⟨_, h1, h2⟩ := hkw; ⟨_, pak_kw0 h1 hall hks hpl, so_kw h2 hl⟩
theorem qx_kw (ha : PD X Γ (e :: es) md) (hkw : PKm X Γ kws (mAll ms)) (hl : ms.length = ks.length := by rfl) (hall : ∀ pos, (backToKw pos (keywordEach kws X.env)).all (·.1.isSome) = true := by intro _; rfl) (hks : ∀ pos, (backToKw pos (keywordEach kws X.env)).filterMap (·.1) = ks := by intro _; rfl)
    (he : starEach (e :: es) X.env = (false, eval e X.env) :: starEach es X.env := by rfl) (hpl : ∀ pos, ((backTo pos (starEach (e :: es) X.env)).any (·.1) || (backToKw pos (keywordEach kws X.env)).any (·.1.isNone)) = false := by intro _; rfl) : PAKm X Γ (e :: es) kws ks (mApp2 md (mAll ms)) := by
  obtain ⟨_, h1, h2⟩ := ha
  obtain ⟨_, h3, h4⟩ := hkw
  refine ⟨_, pak_kw h1 h3 hall hks he hpl, fun F δ G H σ Q a k => h2 F δ G H σ _ a ((OkR.bnd k).imp fun ds δ1 G1 s1 k1 vs H1 a1 r1 => so_kw h4 hl F δ1 G1 H1 σ _ a1 ((OkR.bnd k1).imp fun es δ2 G2 s2 k2 zs H2 a2 r2 => ?_))⟩
  exact k2 G2 (Same.refl _) _ H2 a2 ((r1.mono s2).append r2)
end

/-! ### what a call of data is promised -/
abbrev Arr := List Dt → Option (List Dt)
def UOk (K : PySem.W.Frag) (sp : Sp) (arr : Arr) (c : List Sv → Res Sv) : Prop := ∀ (G H : Hp) vs ds es d outs (Q : VK) (E : XK), Same G H → DrAll K G vs ds → arr ds = some es → c (es.map .dat) = .ok (.dat d) outs → (∀ v G' H', Fr (W0 K) G H G' H' → Same G' H' → Dr K G' v d → Q v H') → sp vs H Q E
def IOk (K : PySem.W.Frag) (C : Addr) (sp : Sp) (arr : Arr) (c : List Sv → Res Sv) : Prop := ∀ (G H : Hp) vs ds es fs outs (Q : VK) (E : XK), Same G H → DrAll K G vs ds → arr ds = some es → c (.ins C [] :: es.map .dat) = .ok (.dat .non) (.ins C fs :: outs) →
  (∀ x G' H', Fr (W0 K) G H G' H' → Same G' H' → Dr K G' (.ref x) (.obj C fs) → Q (.ref x) H') → ∀ x dx, H x = none → H dx = none → dx ≠ x → sp (.ref x :: vs) (upd (upd H dx (.own x)) x (.ins C dx [])) (fun v H2 => v = .non ∧ Q (.ref x) H2) E
structure ClU (P : Program) (w : World) (K : PySem.W.Frag) (mg : Str → Option Value) (base : Heap) (k : Nat) (x : Str) (ks : List Str) (arr : Arr) (c : List Sv → Res Sv) : Prop where
  ex : ∃ (f : Addr) (sp : Sp), FnU P w K mg base L2.CX0 k f ks sp ∧ UOk K sp arr c ∧ mg x = some (.ref f) ∧ PySem.W.keepIn K (.ref f) = true
structure ClUM (P : Program) (w : World) (K : PySem.W.Frag) (mg : Str → Option Value) (base : Heap) (k : Nat) (C : Addr) (m : Str) (ks : List Str) (arr : Arr) (c : List Sv → Res Sv) : Prop where
  ex : ∃ (f : Addr) (sp : Sp), FnU P w K mg base L2.CX0 k f ks sp ∧ UOk K sp arr c ∧ Meth K C m f
structure ClUS (P : Program) (w : World) (K : PySem.W.Frag) (mg : Str → Option Value) (base : Heap) (k : Nat) (C : Addr) (m : Str) (ks : List Str) (arr : Arr) (c : List Sv → Res Sv) : Prop where
  ex : ∃ (f p : Addr) (sp : Sp), FnU P w K mg base L2.CX0 k f ks sp ∧ UOk K sp arr c ∧ SMet K C m p f
structure ClUI (P : Program) (w : World) (K : PySem.W.Frag) (mg : Str → Option Value) (base : Heap) (k : Nat) (C : Addr) (x : Str) (ks : List Str) (arr : Arr) (c : List Sv → Res Sv) : Prop where
  ex : ∃ (f : Addr) (sp : Sp), FnU P w K mg base L2.CX0 k f ks sp ∧ IOk K C sp arr c ∧ Mk K C f ∧ mg x = some (.ref C)
def ansU (c : List Sv → Res Sv) (arr : Arr) (ds : List Dt) (δ : List Sv) : Res Dt := match arr ds with
  | some es => (match c (es.map .dat) with
    | .ok (.dat d) _ => .ok d δ
    | _ => .bad)
  | none => .bad
def mU (c : List Sv → Res Sv) (arr : Arr) (md : M (List Dt)) : M Dt := fun δ => (md δ).bnd fun ds δ1 => ansU c arr ds δ1
def mUM (C : Addr) (nm : Str) (c : List Sv → Res Sv) (arr : Arr) (o : M Dt) (md : M (List Dt)) : M Dt := fun δ => (o δ).bnd fun d δ1 => match d with
  | .obj C' fs => if C' = C ∧ fs.lookup nm = none then (md δ1).bnd fun ds δ2 => ansU c arr (.obj C' fs :: ds) δ2 else .bad
  | _ => .bad
def insU (C : Addr) (r : Res Sv) (δ : List Sv) : Res Dt := match r with
  | .ok (.dat .non) (.ins C' fs :: _) => if C' = C then .ok (.obj C fs) δ else .bad
  | _ => .bad
def mUI (C : Addr) (c : List Sv → Res Sv) (arr : Arr) (md : M (List Dt)) : M Dt := fun δ => (md δ).bnd fun ds δ1 => (opt (arr ds) δ1).bnd fun es δ1 => insU C (c (.ins C [] :: es.map .dat)) δ1
section
variable {X : Cx} {Γ : Cn} {F : Fm} [L : Lk X Γ]
variable {e e1 e2 e3 tg o : Expr} {es : List Expr} {pos p apos : Pos} {m m1 m2 m3 : M Dt} {x nm : Str} {i j k l n : Nat} {md : M (List Dt)} {ms : List (M Dt)} {kws : List Keyword} {ks : List Str} {arr : Arr} {c : List Sv → Res Sv} {C : Addr}
theorem ansU_ok {ds : List Dt} {δ : List Sv} {G : Hp} {k : Dt → List Sv → Hp → Prop} (h : OkR Γ F G (ansU c arr ds δ) k) : ∃ es d outs, arr ds = some es ∧ c (es.map .dat) = .ok (.dat d) outs ∧ ∀ G', Same G G' → k d δ G' := by
  unfold ansU at h
  split at h
  · rename_i es e1
    split at h
    · rename_i d outs e2; exact ⟨es, d, outs, e1, e2, h⟩
    · exact h.elim
  · exact h.elim
theorem so_U {t : TA} {sp : Sp} {E : L2.St → XK} (u : UOk Γ.K sp arr c) (ha : SoD Γ t md) : SoE Γ (tU t sp E) (mU c arr md) := fun F δ G H σ Q a k => ha F δ G H σ _ a ((OkR.bnd k).imp fun ds δ1 G1 s1 k1 vs H1 a1 r1 => by
  obtain ⟨es, d, outs, e1, e2, k2⟩ := ansU_ok k1
  exact u G1 H1 vs ds es d outs Q _ a1.sub r1 e1 e2 fun v G' H' f' s' r' => k2 G' f'.g v H' (a1.step f' s') r')
theorem qe_U (cl : ClU X.prog X.w X.K X.mg X.base k x ks arr c) (hr : Room j X.A) (hkj : k ≤ j) (hg : Gl X x) (ha : PAKm X Γ es kws ks md) (hd : (x == ("__debug__" : Str)) = false := by decide) : PM X Γ (.Call (.Name x p) es kws pos) (mU c arr md) := by
  obtain ⟨f, sp, h1, h2, h3, h4⟩ := cl.ex
  obtain ⟨t, h5, h6⟩ := ha
  exact ⟨_, pe_U (E := fun _ => L2.E0) h1 (hr.mono hkj) h4 hg h3 passS0 h5 hd, so_U (L.k ▸ h2) h6⟩
theorem qe_US {pl : Sem Bool} (cl : ClUS X.prog X.w X.K X.mg X.base k C nm ks arr c) (hr : Room j X.A) (hkj : k ≤ j) (ho : PM X Γ o (mC (.raw (.ref C)))) (ha : PAKm X Γ es kws ks md)
    (ht : eval (.Call (.Attribute o nm apos) es kws pos) X.env = (do
      let ov ← eval o X.env
      standAt apos.atName
      let (f, first) ← holding [ov] (getMethod ov nm pl)
      callWith pos f first (backTo pos (starEach es X.env)) (backToKw pos (keywordEach kws X.env))) := by rfl) : PM X Γ (.Call (.Attribute o nm apos) es kws pos) (mU c arr md) := by
  obtain ⟨f, q, sp, h1, h2, h3⟩ := cl.ex
  obtain ⟨ta, h7, h8⟩ := ho
  obtain ⟨t, h5, h6⟩ := ha
  refine ⟨_, pe_stat (E := fun _ => L2.E0) h7 h3 h1 (hr.mono hkj) passS0 h5 ht, fun F δ G H σ Q a k => h8 F δ G H σ _ a fun G1 s1 v H1 a1 r1 => ?_⟩
  cases r1
  exact ⟨rfl, so_U (E := fun _ => L2.E0) (L.k ▸ h2) h6 F δ G1 H1 σ Q a1 (k.mono s1)⟩
theorem qe_UM {pl : Sem Bool} (cl : ClUM X.prog X.w X.K X.mg X.base k C nm ks arr c) (cc : Cls X.K C) (hr : Room j X.A) (hkj : k ≤ j) (ho : PM X Γ o m) (ha : PAKm X Γ es kws ks md)
    (ht : eval (.Call (.Attribute o nm apos) es kws pos) X.env = (do
      let ov ← eval o X.env
      standAt apos.atName
      let (f, first) ← holding [ov] (getMethod ov nm pl)
      callWith pos f first (backTo pos (starEach es X.env)) (backToKw pos (keywordEach kws X.env))) := by rfl) : PM X Γ (.Call (.Attribute o nm apos) es kws pos) (mUM C nm c arr m md) := by
  obtain ⟨f, sp, h1, h2, h3⟩ := cl.ex
  obtain ⟨ta, h7, h8⟩ := ho
  obtain ⟨t, h5, h6⟩ := ha
  refine ⟨_, pe_methU (E := fun _ => L2.E0) h7 cc h3 h1 (hr.mono hkj) passS0 h5 ht, fun F δ G H σ Q a k => h8 F δ G H σ _ a ((OkR.bnd k).imp fun d δ1 G1 s1 k1 v H1 a1 r1 => ?_)⟩
  cases d with
  | obj C' fs =>
    obtain ⟨⟨hC, hlk⟩, k1'⟩ := if_ok k1
    subst hC
    have r1' := r1
    cases r1 with
    | @obj b _ dx us _ q1 q2 q3 =>
      refine ⟨b, dx, us, rfl, a1.sub _ _ q1, q3.lookN hlk, h6 F δ1 G1 H1 σ _ a1 ((OkR.bnd k1').imp fun ds δ2 G2 s2 k2 ws H2 a2 r2 => ?_)⟩
      obtain ⟨es, d, outs, e1, e2, k3⟩ := ansU_ok k2
      exact h2 G2 H2 (.ref b :: ws) (.obj C' fs :: ds) es d outs Q _ a2.sub (L.k ▸ .cons (r1'.mono s2) r2) e1 e2 fun v G' H' f' s' r' => k3 G' f'.g v H' (a2.step (L.k ▸ f') s') (L.k ▸ r')
  | _ => exact k1.elim
theorem qe_UI (cl : ClUI X.prog X.w X.K X.mg X.base k C x ks arr c) (hr : Room j X.A) (hkj : k + 1 ≤ j) (hg : Gl X x) (ha : PAKm X Γ es kws ks md) (hd : (x == ("__debug__" : Str)) = false := by decide) : PM X Γ (.Call (.Name x p) es kws pos) (mUI C c arr md) := by
  obtain ⟨f, sp, h1, h2, h3, h4⟩ := cl.ex
  obtain ⟨t, h5, h6⟩ := ha
  refine ⟨_, pe_mkU (E := fun _ => L2.E0) h3 h1 (hr.mono hkj) hg h4 passS0 h5 hd, fun F δ G H σ Q a k => h6 F δ G H σ _ a ((OkR.bnd k).imp fun ds δ1 G1 s1 k1 vs H1 a1 r1 x dx hx hdx hne => ?_)⟩
  obtain ⟨es, e1, k2⟩ := OkR.opt (OkR.bnd k1)
  have k2 := k2 G1 (Same.refl _)
  unfold insU at k2
  split at k2
  · rename_i C' fs outs e2
    obtain ⟨hC, k2⟩ := if_ok k2
    subst hC
    exact h2 G1 H1 vs ds es fs outs Q _ a1.sub (L.k ▸ r1) e1 e2 (fun x G' H' f' s' r' => k2 G' f'.g _ H' (a1.step (L.k ▸ f') s') (L.k ▸ r')) x dx hx hdx hne
  · exact k2.elim
end
end Qm

set_option Elab.async false
set_option linter.all false
set_option maxRecDepth 100000
set_option maxHeartbeats 4000000
namespace Qm
open PySem PySem.Spec PyProof.Rows L2 Pd
/-! ### how arguments become parameters -/
/-- each parameter is one of the n arguments -/
def arrP (n : Nat) (pk : List Nat) : Arr := fun ds => if ds.length = n then some (pk.map fun i => ds.getD i .non) else none
/-- what is left behind the first q is a tuple -/
def arrS (q : Nat) : Arr := fun ds => if q ≤ ds.length ∧ ds.length ≤ 100000 then some (ds.take q ++ [.tup (ds.drop q)]) else none
def arrPS (n : Nat) (pk : List Nat) : Arr := fun ds => if ds.length = n then some ((pk.map fun i => ds.getD i .non) ++ [.tup []]) else none
theorem vals_get : ∀ {vs : List V} {us : List Value} (i : Nat), Vals vs us → RelV (vs.getD i .non) (us.getD i .none)
  | _, _, _, .nil => rfl
  | _, _, 0, .cons r _ => r
  | _, _, i + 1, .cons _ t => vals_get i t
theorem vals_pick {vs : List V} {us : List Value} (r : Vals vs us) : ∀ pk : List Nat, Vals (pk.map fun i => vs.getD i .non) (pk.map fun i => us.getD i .none)
  | [] => .nil
  | i :: pk => .cons (vals_get i r) (vals_pick r pk)
section
variable {K : PySem.W.Frag} {G : Hp}
theorem dr_get : ∀ {vs : List V} {ds : List Dt} (i : Nat), DrAll K G vs ds → Dr K G (vs.getD i .non) (ds.getD i .non)
  | _, _, _, .nil => .non
  | _, _, 0, .cons r _ => r
  | _, _, i + 1, .cons _ t => dr_get i t
theorem dr_pick {vs : List V} {ds : List Dt} (r : DrAll K G vs ds) : ∀ pk : List Nat, DrAll K G (pk.map fun i => vs.getD i .non) (pk.map fun i => ds.getD i .non)
  | [] => .nil
  | i :: pk => .cons (dr_get i r) (dr_pick r pk)
end
section
variable {P : Program} {w : World} {K : PySem.W.Frag} {mg : Str → Option Value} {base : Heap} {CX : CXT} {k n np q : Nat} {f C : Addr} {fd : FuncData} {ps ks : List Str} {pv : Str} {sp : Sp} {pk : List Nat} {c : List Sv → Res Sv}
def spP (n : Nat) (pk : List Nat) (sp : Sp) : Sp := fun xs H Q E => xs.length = n ∧ sp (pk.map fun i => xs.getD i .non) H Q E
theorem fnU_pk (F : FnOk P w K mg base CX k f fd ps sp) (hb : ∀ us ws : List Value, us.length = np → ws.length = ks.length → bindArgs fd ⟨us, ks.zip ws⟩ = pure (ps.zip (pk.map fun i => (us ++ ws).getD i .none))) (hn : n = np + ks.length := by rfl) : FnU P w K mg base CX k f ks (spP n pk sp) :=
  fun A outer s H us ws vs zs Q E hr e0 r rz hl h => by
    have h1 := h.1
    rw [List.length_append] at h1
    exact F.run A outer s H ⟨us, ks.zip ws⟩ _ _ Q E hr e0 (.of_eq (hb us ws (by rw [← r.length]; omega) (by rw [← rz.length]; exact hl))) (vals_pick (r.append rz) pk) h.2
theorem uok_pk (hl : pk.length = q := by rfl) (hk : kd = List.replicate q none := by rfl) : UOk K (spP n pk (spM K q kd c)) (arrP n pk) c := fun G H vs ds es d outs Q E s r e1 e2 k => by
  unfold arrP at e1
  split at e1
  · rename_i hn
    cases e1
    subst hk
    exact ⟨by rw [r.length]; exact hn, spM_data s (dr_pick r pk) (by rw [List.length_map]; exact hl) e2 k⟩
  · cases e1
theorem io_make {G H : Hp} {vs : List V} {ds : List Dt} {fs : List (Str × Dt)} {outs : List Sv} {Q : VK} {E : XK} {kd : List (Option Nat)} (s : Same G H) (r : DrAll K G vs ds) (hl : ds.length + 1 = n) (hkd : kd = some 0 :: List.replicate ds.length none) (hc : c (.ins C [] :: ds.map .dat) = .ok (.dat .non) (.ins C fs :: outs))
    (k : ∀ x G' H', Fr (W0 K) G H G' H' → Same G' H' → Dr K G' (.ref x) (.obj C fs) → Q (.ref x) H') {x dx : Addr} (hx : H x = none) (hd : H dx = none) (hne : dx ≠ x) : spM K n kd c (.ref x :: vs) (upd (upd H dx (.own x)) x (.ins C dx [])) (fun v H2 => v = .non ∧ Q (.ref x) H2) E :=
  make_fin (Γ := Cn.zero K) (F := ⟨G, H, fun _ => False⟩) (δ := []) (σ := []) (At.args s .nil) r hl hkd hc (fun x' G' H' sG a' r' => k x' G' H' ⟨sG, fun b u e g => let ⟨z1, z2⟩ := a'.fr b u e g (fun z => z); ⟨z1, fun _ => z2⟩⟩ a'.sub r') hx hd hne
theorem iok_pk {n' : Nat} (hn : n' = n + 1 := by rfl) (hp : pk' = 0 :: pk.map (· + 1) := by rfl) (hl : pk.length + 1 = q := by rfl) (hk : kd = some 0 :: List.replicate pk.length none := by rfl) : IOk K C (spP n' pk' (spM K q kd c)) (arrP n pk) c := fun G H vs ds es fs outs Q E s r e1 e2 k x dx hx hd hne => by
  unfold arrP at e1
  split at e1
  · rename_i hn'
    cases e1
    refine ⟨by rw [List.length_cons, r.length, hn', hn], ?_⟩
    have ep : (pk'.map fun i => (V.ref x :: vs).getD i .non) = V.ref x :: pk.map fun i => vs.getD i .non := by
      rw [hp, List.map_cons, List.map_map]
      rfl
    rw [ep]
    exact io_make s (dr_pick r pk) (by rw [List.length_map]; exact hl) (by rw [List.length_map]; exact hk) e2 k hx hd hne
  · cases e1
/-! a def with a star parameter -/
def StarOk (P : Program) (w : World) (K : PySem.W.Frag) (mg : Str → Option Value) (base : Heap) (CX : CXT) (k : Nat) (f : Addr) (fd : FuncData) (ps : List Str) (pv : Str) (sp : Sp) : Prop :=
  ∀ (A : Around) (outer : List Env) (s : Shared) (H : Hp) (args : Args) (us rest : List Value) (ws rs : List V) (Q : VK) (E : XK), Room k A → Env0 P w K mg base A outer s H → bindArgs fd args = (newTuple rest >>= fun t => pure (ps.zip us ++ [(pv, t)])) → Vals ws us → Vals rs rest → ws.length = ps.length → rs.length ≤ 100000 →
    (∀ p, H p = none → sp (ws ++ [V.ref p]) (upd H p (.tup rs)) Q E) → codeAny (model P w) A (.call (.ref f) args) (CR CX outer P w H s Q E) s
theorem starOk_of {name qual : Str} {params : Arguments} {body : List Stmt} {scope : Scope} {dV kV doc pm cdv ct oc : Value} {an od : Option Addr} {osl : Array (Option Value)} {N : List Str} (lk : K.lookup f = some ⟨oc, od, .func (PySem.W.fnOf name qual params body scope dV kV doc pm an cdv ct), osl⟩) (hcd : PySem.W.codeIn K cdv qual = true) (S : FnScope N (ps ++ [pv]) scope) (hCX : StX.CXUp CX)
    (hbody : ∀ (A : Around) (outer : List Env) (s : Shared) (H : Hp) (vs : List V) (Q : VK) (E : XK), Room k (A.deeper (envOfC qual scope s.heap.objs.size f cdv)) → sp vs H Q E →
      ∃ t, PSs (cxOf CX P w K mg base N qual scope f cdv A outer s H E) body t ∧ t { nx := fun _ H' => Q .non H', rt := Q } (L2.start N vs) H) : StarOk P w K mg base CX (k + 1) f (PySem.W.fnOf name qual params body scope dV kV doc pm an cdv ct) ps pv sp := by
  intro A outer s H args us rest ws rs Q E hr e0 hb r rr hl hz hq
  have hn : H s.heap.objs.size = none := e0.hok.fresh (Nat.le_refl _)
  have l2 : rest.length ≤ sizeLine := by rw [← rr.length]; exact size_le hz
  refine StX.run_bnd lk hcd S hr e0 (G := fun xs H2 => ∃ p, H p = none ∧ xs = ws ++ [V.ref p] ∧ H2 = upd H p (.tup rs)) (fun A' Ex Q' h => ?_) fun s2 H2 xs ⟨p, hp, ex, eH⟩ hr' => ?_
  · rw [hb]
    have new : ObjOk P w (upd H s.heap.objs.size (.tup rs)) (s.heap.push ({ cls := .type "tuple", data := .seq rest.toArray } : Obj)) s.heap.objs.size (.tup rs) := ⟨size_le hz, rest, rr, ⟨_, Heap.get?_push_size _ rfl, rfl, _, rfl⟩⟩
    have un := StX.un_laid (fs := frs outer) (s := s) (o := ({ cls := .type "tuple", data := .seq rest.toArray } : Obj)) (u := .tup rs) hn
    refine wpAny_bind (wpAny_newTuple (wpAny_pure ?_) l2)
    have z := h _ _ (ws ++ [V.ref s.heap.objs.size]) (us ++ [Value.ref s.heap.objs.size]) (StX.env0_laid e0 new) un rfl (fun e s' => hCX outer s H _ _ E e s' un (fun b o q => Heap.get?_push_of_some _ q) rfl) (r.append (.cons rfl .nil)) (by simp [hl]) ⟨_, hn, rfl, rfl⟩
    rw [List.zip_append (by rw [← r.length, hl])] at z
    exact z
  · subst ex eH
    exact hbody A outer s2 _ _ Q E hr' (hq p hp)
def spS (q : Nat) (sp : Sp) : Sp := fun xs H Q E => q ≤ xs.length ∧ (xs.drop q).length ≤ 100000 ∧ ∀ p, H p = none → sp (xs.take q ++ [V.ref p]) (upd H p (.tup (xs.drop q))) Q E
theorem Vals.take : ∀ {vs : List V} {us : List Value} (n : Nat), Vals vs us → Vals (vs.take n) (us.take n)
  | _, _, 0, _ => .nil
  | _, _, _ + 1, .nil => .nil
  | _, _, n + 1, .cons r t => .cons r (Vals.take n t)
theorem Vals.drop : ∀ {vs : List V} {us : List Value} (n : Nat), Vals vs us → Vals (vs.drop n) (us.drop n)
  | _, _, 0, r => r
  | _, _, _ + 1, .nil => .nil
  | _, _, n + 1, .cons _ t => Vals.drop n t
theorem fnU_star (F : StarOk P w K mg base CX k f fd ps pv sp) (hb : ∀ us rest : List Value, us.length = ps.length → bindArgs fd ⟨us ++ rest, []⟩ = (newTuple rest >>= fun t => pure (ps.zip us ++ [(pv, t)]))) (hq : q = ps.length := by rfl) : FnU P w K mg base CX k f [] (spS q sp) :=
  fun A outer s H us ws vs zs Q E hr e0 r rz hl h => by
    have hz : zs = [] := List.eq_nil_of_length_eq_zero hl
    subst hz
    rw [List.append_nil] at h
    obtain ⟨h1, h2, h3⟩ := h
    have lu := r.length
    refine F A outer s H ⟨us, ([] : List Str).zip ws⟩ (us.take q) (us.drop q) (vs.take q) (vs.drop q) Q E hr e0 ?_ (Vals.take q r) (Vals.drop q r) (by rw [List.length_take]; omega) h2 h3
    have := hb (us.take q) (us.drop q) (by rw [List.length_take]; omega)
    rw [List.take_append_drop] at this
    exact this
def spPS (n : Nat) (pk : List Nat) (sp : Sp) : Sp := fun xs H Q E => xs.length = n ∧ ∀ p, H p = none → sp ((pk.map fun i => xs.getD i .non) ++ [V.ref p]) (upd H p (.tup [])) Q E
theorem fnU_starK (F : StarOk P w K mg base CX k f fd ps pv sp) (hb : ∀ us ws : List Value, us.length = np → ws.length = ks.length → bindArgs fd ⟨us, ks.zip ws⟩ = (newTuple [] >>= fun t => pure (ps.zip (pk.map fun i => (us ++ ws).getD i .none) ++ [(pv, t)]))) (hn : n = np + ks.length := by rfl) (hl : pk.length = ps.length := by rfl) : FnU P w K mg base CX k f ks (spPS n pk sp) :=
  fun A outer s H us ws vs zs Q E hr e0 r rz hz h => by
    have h1 := h.1
    rw [List.length_append] at h1
    exact F A outer s H ⟨us, ks.zip ws⟩ _ [] _ [] Q E hr e0 (hb us ws (by rw [← r.length]; omega) (by rw [← rz.length]; exact hz)) (vals_pick (r.append rz) pk) .nil (by rw [List.length_map]; exact hl) (Nat.zero_le _) h.2
theorem fr_tup {G H : Hp} {rs : List V} {p : Addr} (s : Same G H) (hp : H p = none) : Fr (W0 K) G H (upd G p (.tup rs)) (upd H p (.tup rs)) ∧ Same (upd G p (.tup rs)) (upd H p (.tup rs)) ∧ Same G (upd G p (.tup rs)) := by
  have g := good0 (K := K) s
  exact ⟨Fr.new g hp, (g.new hp).sub, same_new (g.gn hp)⟩
theorem star_data {G H : Hp} {vs rs : List V} {ds es : List Dt} {d : Dt} {outs : List Sv} {Q : VK} {E : XK} {p : Addr} (s : Same G H) (r : DrAll K G vs ds) (rr : DrAll K G rs es) (hq : ds.length + 1 = q) (hc : c ((ds ++ [Dt.tup es]).map .dat) = .ok (.dat d) outs) (hp : H p = none)
    (k : ∀ v G' H', Fr (W0 K) G H G' H' → Same G' H' → Dr K G' v d → Q v H') : spM K q (List.replicate q none) c (vs ++ [V.ref p]) (upd H p (.tup rs)) Q E := by
  obtain ⟨f1, s1, s0⟩ := fr_tup (rs := rs) s hp
  exact spM_data s1 ((r.mono s0).append (.cons (.tup (.inl (.inl upd_same)) (rr.mono s0)) .nil)) (by simp [hq]) hc fun v G' H' f' s' r' => k v G' H' (f1.trans f' (good0 s')) s' r'
theorem uok_star (hl : q' = q + 1 := by rfl) (hk : kd = List.replicate q' none := by rfl) : UOk K (spS q (spM K q' kd c)) (arrS q) c := fun G H vs ds es d outs Q E s r e1 e2 k => by
  unfold arrS at e1
  split at e1
  · rename_i hn
    cases e1
    subst hk
    have lr := r.length
    exact ⟨by omega, by rw [List.length_drop]; omega, fun p hp => star_data s (r.take q) (r.drop q) (by rw [List.length_take]; omega) e2 hp k⟩
  · cases e1
theorem star_make {G H : Hp} {vs rs : List V} {ds es : List Dt} {fs : List (Str × Dt)} {outs : List Sv} {Q : VK} {E : XK} {p x dx : Addr} {kd : List (Option Nat)} (s : Same G H) (r : DrAll K G vs ds) (rr : DrAll K G rs es) (hq : ds.length + 2 = q) (hk : kd = some 0 :: List.replicate (ds.length + 1) none) (hc : c (.ins C [] :: (ds ++ [Dt.tup es]).map .dat) = .ok (.dat .non) (.ins C fs :: outs))
    (k : ∀ x G' H', Fr (W0 K) G H G' H' → Same G' H' → Dr K G' (.ref x) (.obj C fs) → Q (.ref x) H') (hx : H x = none) (hd : H dx = none) (hne : dx ≠ x) (hp : upd (upd H dx (.own x)) x (.ins C dx []) p = none) :
    spM K q kd c (V.ref x :: (vs ++ [V.ref p])) (upd (upd (upd H dx (.own x)) x (.ins C dx [])) p (.tup rs)) (fun v H2 => v = .non ∧ Q (.ref x) H2) E := by
  have n1 : p ≠ x := fun e => by subst e; rw [upd_same] at hp; cases hp
  have n2 : p ≠ dx := fun e => by subst e; rw [upd_ne hne, upd_same] at hp; cases hp
  have hp' : H p = none := by rw [upd_ne n1, upd_ne n2] at hp; exact hp
  obtain ⟨f1, s1, s0⟩ := fr_tup (rs := rs) s hp'
  have eH : upd (upd (upd H dx (.own x)) x (.ins C dx [])) p (.tup rs) = upd (upd (upd H p (.tup rs)) dx (.own x)) x (.ins C dx []) := by
    funext b
    unfold upd
    by_cases h1 : b = p
    · subst h1; rw [if_pos rfl, if_neg n1, if_neg n2, if_pos rfl]
    · rw [if_neg h1, if_neg h1]
  rw [eH]
  exact io_make s1 ((r.mono s0).append (.cons (.tup (.inl (.inl upd_same)) (rr.mono s0)) .nil)) (by simp; omega) (by rw [hk]; simp) hc (fun x G' H' f' s' r' => k x G' H' (f1.trans f' (good0 s')) s' r') (by rw [upd_ne n1.symm]; exact hx) (by rw [upd_ne n2.symm]; exact hd) hne
theorem iok_star (hn : n = q + 1 := by rfl) (hl : q' = q + 2 := by rfl) (hk : kd = some 0 :: List.replicate (q + 1) none := by rfl) : IOk K C (spS n (spM K q' kd c)) (arrS q) c := fun G H vs ds es fs outs Q E s r e1 e2 k x dx hx hd hne => by
  subst hn
  unfold arrS at e1
  split at e1
  · rename_i h
    cases e1
    have lr := r.length
    have lt : (ds.take q).length = q := by rw [List.length_take]; omega
    refine ⟨by rw [List.length_cons]; omega, ?_, fun p hp => ?_⟩
    · rw [List.drop_succ_cons, List.length_drop]; omega
    · exact star_make s (r.take q) (r.drop q) (by rw [lt]; omega) (by rw [lt]; exact hk) e2 k hx hd hne hp
  · cases e1
theorem iok_starK (hn : n' = n + 1 := by rfl) (hp : pk' = 0 :: pk.map (· + 1) := by rfl) (hl : pk.length + 2 = q := by rfl) (hk : kd = some 0 :: List.replicate (pk.length + 1) none := by rfl) : IOk K C (spPS n' pk' (spM K q kd c)) (arrPS n pk) c := fun G H vs ds es fs outs Q E s r e1 e2 k x dx hx hd hne => by
  unfold arrPS at e1
  split at e1
  · rename_i h
    cases e1
    have lr := r.length
    refine ⟨by rw [List.length_cons, hn, lr, h], fun p hp' => ?_⟩
    have ep : (pk'.map fun i => (V.ref x :: vs).getD i .non) = V.ref x :: pk.map fun i => vs.getD i .non := by
      rw [hp, List.map_cons, List.map_map]
      rfl
    rw [ep]
    exact star_make s (dr_pick r pk) .nil (by rw [List.length_map]; exact hl) (by rw [List.length_map]; exact hk) e2 k hx hd hne hp'
  · cases e1
end
end Qm

set_option Elab.async false
set_option linter.all false
set_option maxRecDepth 100000
set_option maxHeartbeats 4000000
namespace Qm
open PySem PySem.Spec PyProof.Rows L2 Pd
section
variable {P : Program} {w : World} {K : PySem.W.Frag} {mg : Str → Option Value} {base : Heap} {k q n : Nat} {x qual pv : Str} {st : Stmt} {f : Addr} {fd : FuncData} {N ps : List Str} {kd : List (Option Nat)} {m : M Fl}
/-- a def with a star parameter, by its body -/
theorem fnS (Fn : Fun K x qual st f fd) (S : FnScope N (ps ++ [pv]) (defScope st)) (hn : n = (ps ++ [pv]).length) (hN : n ≤ N.length) (hkd : ∀ k j : Nat, kd[k]? = some (some j) → j = k ∧ k < q ∧ k < n)
    (hb : ∀ (cdv : Value) (A : Around) (outer : List Env) (s : Shared) (H : Hp) (E : XK) (Γ : Cn), Room k (A.deeper (envOfC qual (defScope st) s.heap.objs.size f cdv)) → Γ.K = K → Γ.ps = kd.filterMap id → Γ.n = N.length →
      Lk (cxOf L2.CX0 P w K mg base N qual (defScope st) f cdv A outer s H E).nox Γ → PQs (cxOf L2.CX0 P w K mg base N qual (defScope st) f cdv A outer s H E).nox Γ (defBody st) m) :
    StarOk P w K mg base L2.CX0 (k + 1) f fd ps pv (spM K n kd (fnOf N.length n q m)) := by
  subst hn
  obtain ⟨oc, od, kV, doc, pm, an, cdv, ct, osl, rfl, lk, hcd⟩ := Fn.ex
  refine starOk_of lk hcd S StX.cxUp_none fun A outer s H vs Q E hr h => ?_
  obtain ⟨t, h1, h2⟩ := body_run (X := (cxOf L2.CX0 P w K mg base N qual (defScope st) f cdv A outer s H E).nox) rfl rfl hr.units65 hN hkd (fun Γ h1 h2 h3 h4 => hb cdv A outer s H E Γ hr h1 h2 h3 h4) h
  exact ⟨t, h1.nox, h2⟩
theorem bind_star0 {B : List Value → Sem (List (Str × Value))} {pv : Str} (h0 : B [] = (newTuple [] >>= fun t => pure [(pv, t)])) (h1 : ∀ r rs, B (r :: rs) = (newTuple (r :: rs) >>= fun t => pure [(pv, t)])) :
    ∀ us rest : List Value, us.length = ([] : List Str).length → B (us ++ rest) = (newTuple rest >>= fun t => pure (([] : List Str).zip us ++ [(pv, t)]))
  | [], [], _ => h0
  | [], r :: rs, _ => h1 r rs
end
/-! ### bool(x) by the class's own __len__; str(x); y in x -/
section
variable {prog : Program} {w : World} {A : Around} {E : Value → Shared → Prop} {s : Shared} {K : PySem.W.Frag} {x C f : Addr} {ox : Obj} {od : Option Obj}
theorem truthyL {Q : Bool → Shared → Prop} (X : K.In s.heap) (I : PySem.W.InstAt s.heap x ox C od) (hs : PySem.W.findIn K (.ref C) "__bool__" = some none) (hl : PySem.W.findIn K (.ref C) "__len__" = some (some (.ref f))) (hf : PySem.W.isFn K (.ref f) = true)
    (h : wpAny (model prog w) A.in1 (call (.ref f) [.ref x]) (fun v s' => ∃ n t, v = .int n t ∧ 0 ≤ n ∧ n < 2 ^ 62 ∧ Q (n != 0) { s' with toks := s'.toks + 1 }) E s) : wpAny (model prog w) A (truthy (.ref x)) Q E s := by
  unfold truthy
  refine wpAny_bind (m := callSpecial? (.ref x) (Str.ofString "__bool__")) (wpAny_bind (wpAny_bind (I.type.here ((PySem.W.looks_findIn X hs).here (wpAny_pure ?_)))))
  refine wpAny_bind (wpAny_bind (I.type.here ((PySem.W.looks_findIn X hl).here ?_)))
  simp only [Option.isNone_some, Bool.false_eq_true, if_false]
  refine wpAny_bind (wpAny_runValue (codeAny_builtin entry_len ?_))
  rw [Around.under_plainId plain_len _]
  unfold Builtin.«len»
  refine wpAny_bind (m := oneArg "len" _) (wpAny_pure ?_)
  refine wpAny_bind (m := callSpecial? (.ref x) (Str.ofString "__len__")) (PySem.W.special_fn X I hl (beq_iff_eq.mp hf) (wpAny_mono h (fun r s' hr => ?_) fun _ _ y => y))
  obtain ⟨n, t, rfl, h0, h1, hq⟩ := hr
  refine wpAny_bind (wpAny_holding (wpAny_pure ?_))
  refine wpAny_bind (wpAny_letGo ?_)
  show wpAny _ _ (if n < 0 then _ else _) _ _ _
  rw [if_neg (by omega)]
  show wpAny _ _ (if n ≥ 2 ^ 63 then _ else _) _ _ _
  rw [if_neg (by omega)]
  exact wpAny_bind (wpAny_mkInt (wpAny_pure (wpAny_pure hq)))
theorem bool_len {Q : Value → Shared → Prop} (X : K.In s.heap) (I : PySem.W.InstAt s.heap x ox C od) (hs : PySem.W.findIn K (.ref C) "__bool__" = some none) (hl : PySem.W.findIn K (.ref C) "__len__" = some (some (.ref f))) (hf : PySem.W.isFn K (.ref f) = true)
    (h : codeAny (model prog w) A.in1.in1.in1 (.call (.ref f) ⟨[.ref x], []⟩) (wants (fun v s' => ∃ n t, v = .int n t ∧ 0 ≤ n ∧ n < 2 ^ 62 ∧ Q (.bool (n != 0)) { s' with toks := s'.toks + 1 }) E) s) : wpAny (model prog w) A (call (.type "bool") [.ref x]) Q E s := by
  refine callType_codes (T := "bool") (Bi := Builtin.«object.__init__») (Q₁ := fun r s₁ => ∃ b, r = .bool b ∧ Q r s₁) PySem.F.called_bool (PySem.F.typeCall_bool_1 _) PySem.F.entry_object_init ?_ ?_
  · refine codeAny_of_tree ?_
    show wpAny _ A.in1.in1 (do checkBuiltinCall "bool.__new__" ⟨[.type "bool", .ref x], []⟩; again (.builtin "bool.__new__" ⟨[.type "bool", .ref x], []⟩)) _ _ s
    refine wpAny_bind (wpAny_of_eq (PySem.F.newCall_bool_1 _) (wpAny_pure ⟨plainId_quiet (by decide +kernel) _, codeAny_builtin PySem.F.entry_bool_new ?_⟩))
    rw [Around.under_plainId (by decide +kernel) _]
    have f1 := F.conv_sub_bool
    obtain ⟨hp, g, d, tk, os⟩ := s
    repeat (any_goals (first | assumption | (with_reducible refine truthyL X I hs hl hf ?_) | wp_step))
    refine codeAny_mono h fun r s' hr => ?_
    match r, hr with
    | .error er, hr => exact hr
    | .ok .next, hr => exact False.elim hr
    | .ok .brk, hr => exact False.elim hr
    | .ok .cont, hr => exact False.elim hr
    | .ok (.ret u), hr =>
      obtain ⟨n, t, e, a, b, hq⟩ := hr
      exact ⟨n, t, e, a, b, wpAny_pure ⟨_, rfl, hq⟩⟩
  · rintro obj s₁ ⟨b, rfl, hq⟩
    exact ⟨rfl, PySem.F.args_object_init_2 _ _, object_init_meets PySem.F.called_bool.init.lookup PySem.F.called_bool.made (by decide) prog w A.in1 _ s₁ ⟨rfl, rfl, hq⟩⟩
end
section
variable {X : Cx} {K : PySem.W.Frag} {j k : Nat} {C : Addr} {sp : Sp}
/-- the callee runs further in -/
theorem run_at {pins : List (Addr × Obj)} {σ : L2.St} {H : Hp} {s : Shared} {f : Addr} {fd : FuncData} {ps : List Str} {us : List Value} {vs : List V} {Q : VK} {A : Around} (F : FnOk X.prog X.w X.K X.mg X.base L2.CX0 k f fd ps sp) (hb : Binds X.K fd ps []) (hr : Room k A) (e0 : Env0 X.prog X.w X.K X.mg X.base A X.stack s H) (I : Inv X pins σ H s) (r : Vals vs us) (q : sp vs H Q L2.E0)
    {R : Value → Shared → Prop} (h : ∀ v s', EP X pins σ Q v s' → R v s') : codeAny (model X.prog X.w) A (.call (.ref f) ⟨us, []⟩) (wants R X.xe) s := by
  have hln := F.len _ _ _ _ q
  have bb := hb s us I.kIn (by rw [List.append_nil, ← r.length]; exact hln)
  rw [List.append_nil] at bb
  refine codeAny_mono (F.run A X.stack s H ⟨us, []⟩ us vs Q L2.E0 hr e0 bb r q) fun rr s' hq => ?_
  match rr, hq with
  | .error _, hq => exact False.elim hq
  | .ok .next, hq => exact False.elim hq
  | .ok .brk, hq => exact False.elim hq
  | .ok .cont, hq => exact False.elim hq
  | .ok (.ret u), hq => exact h u s' (I.after hq)
def rBoolL (C : Addr) (sp : Sp) : List V → Hp → VK → Prop := fun xs H Q => ∃ a dx fs, xs = [.ref a] ∧ H a = some (.ins C dx fs) ∧ sp [.ref a] H (fun v H' => ∃ n : Nat, v = .int n ∧ n ≤ 100000 ∧ Q (.bl (decide (n ≠ 0))) H') L2.E0
theorem callBoolL (hs : PySem.W.findIn X.K (.ref C) "__bool__" = some none) (c : ClM X.prog X.w X.K X.mg X.base k C "__len__" sp) (hr : Room j X.A) (hk : k + 3 ≤ j) : CallR X (.type "bool") (rBoolL C sp) := by
  intro pins s σ H xs us Q I r h
  obtain ⟨a, dx, fs, rfl, ha, q⟩ := h
  obtain ⟨u, rfl, ru⟩ := vals1 r
  obtain rfl : u = Value.ref a := ru
  obtain ⟨f, fd, ps, F, hm, hb⟩ := c.ex
  obtain ⟨mA, J, _⟩ := ins_get I.hok ha
  obtain ⟨od, J, _⟩ := J.look
  refine bool_len I.kIn J hs hm.at_ hm.fn (run_at (us := [.ref a]) (vs := [.ref a]) F hb (hr.mono hk).in1.in1.in1 I.env0.in1.in1.in1 I (.cons rfl .nil) q fun z s1 ⟨zv, H1, I1, rz, n, e, hn, q1⟩ => ?_)
  subst e
  obtain ⟨t, rfl⟩ := rz
  refine ⟨n, t, rfl, by omega, by omega, .bl _, H1, I1.tok _, ?_, q1⟩
  show Value.bool _ = Value.bool _
  congr 1
  by_cases h0 : n = 0
  · subst h0; rfl
  · rw [decide_eq_true h0]
    exact bne_iff_ne.mpr (by omega)
def rStrO (C : Addr) (sp : Sp) : List V → Hp → VK → Prop := fun xs H Q => ∃ a dx fs, xs = [.ref a] ∧ H a = some (.ins C dx fs) ∧ sp [.ref a] H (fun v H' => ∃ z : Str, v = .str z ∧ Q v H') L2.E0
theorem callStrO (c : ClM X.prog X.w X.K X.mg X.base k C "__str__" sp) (hr : Room j X.A) (hk : k + 2 ≤ j) : CallR X (.type "str") (rStrO C sp) := by
  intro pins s σ H xs us Q I r h
  obtain ⟨a, dx, fs, rfl, ha, q⟩ := h
  obtain ⟨u, rfl, ru⟩ := vals1 r
  obtain rfl : u = Value.ref a := ru
  obtain ⟨f, fd, ps, F, hm, hb⟩ := c.ex
  obtain ⟨mA, J, _⟩ := ins_get I.hok ha
  obtain ⟨od, J, _⟩ := J.look
  have hun := hr.units
  refine PySem.W.kso_call (by show X.A.units + 1 + 1 < cLine; omega) I.kIn J hm.at_ hm.fn (wpAny_call (run_at (us := [.ref a]) (vs := [.ref a]) F hb (hr.mono hk).in1.in1 I.env0.in1.in1 I (.cons rfl .nil) q fun z s1 ⟨zv, H1, I1, rz, y, e, q1⟩ => ?_))
  subst e
  obtain ⟨t, rfl⟩ := rz
  exact ⟨.str y, H1, I1, ⟨_, rfl⟩, q1⟩
/-- y in x, x of the class at C -/
def rInO (C : Addr) (sp : Sp) (neg : Bool) : R2 := fun y x H Q => ∃ a dx fs, x = .ref a ∧ H a = some (.ins C dx fs) ∧ sp [x, y] H (fun v H' => ∃ b, v = .bl b ∧ Q (.bl (if neg then !b else b)) H') L2.E0
theorem opInO (c : ClM X.prog X.w X.K X.mg X.base k C "__contains__" sp) (hr : Room j X.A) (hk : k ≤ j) : OpR X (compareOp .In) (rInO C sp false) := by
  intro pins s σ H y x u v Q I ry rx h
  obtain ⟨a, dx, fs, rfl, ha, q⟩ := h
  obtain rfl : v = Value.ref a := rx
  obtain ⟨f, fd, ps, F, hm, hb⟩ := c.ex
  obtain ⟨mA, J, _⟩ := ins_get I.hok ha
  obtain ⟨od, J, _⟩ := J.look
  obtain ⟨m, hF⟩ := I.fr
  refine PySem.W.in_K hF I.ok.mod.kin J hm.at_ hm.fn (thn (run_fn (us := [.ref a, u]) (vs := [.ref a, y]) F (hr.mono hk) hb .nil L2.pass0 I (.cons rfl (.cons ry .nil)) q) fun z s1 ⟨zv, H1, I1, rz, b, e, q1⟩ => ?_)
  subst e
  cases rz
  exact wpAny_pure ⟨.bl b, H1, I1, rfl, q1⟩
theorem opNotInO (c : ClM X.prog X.w X.K X.mg X.base k C "__contains__" sp) (hr : Room j X.A) (hk : k ≤ j) : OpR X (compareOp .NotIn) (rInO C sp true) := by
  intro pins s σ H y x u v Q I ry rx h
  obtain ⟨a, dx, fs, rfl, ha, q⟩ := h
  obtain rfl : v = Value.ref a := rx
  obtain ⟨f, fd, ps, F, hm, hb⟩ := c.ex
  obtain ⟨mA, J, _⟩ := ins_get I.hok ha
  obtain ⟨od, J, _⟩ := J.look
  obtain ⟨m, hF⟩ := I.fr
  refine PySem.W.notIn_K hF I.ok.mod.kin J hm.at_ hm.fn (thn (run_fn (us := [.ref a, u]) (vs := [.ref a, y]) F (hr.mono hk) hb .nil L2.pass0 I (.cons rfl (.cons ry .nil)) q) fun z s1 ⟨zv, H1, I1, rz, b, e, q1⟩ => ?_)
  subst e
  cases rz
  exact wpAny_pure ⟨.bl (!b), H1, I1, rfl, q1⟩
end
section
variable {K : PySem.W.Frag} {C : Addr} {c : List Sv → Res Sv}
def boolL (C : Addr) (c : List Sv → Res Sv) (x : Dt) : Option Dt := if isObj C x = true then (match ansD c [x] with
    | some (.int n) => if 0 ≤ n ∧ n ≤ 100000 then some (.bl (decide (n ≠ 0))) else none
    | _ => none) else none
theorem cs_boolL : CS1 K (rBoolL C (spM K 1 [none] c)) (boolL C c) := fun x z h => by
  unfold boolL at h
  split at h
  · rename_i hx
    obtain ⟨fs, rfl⟩ := isObj_t hx
    split at h
    · rename_i n hn
      split at h
      · rename_i hb
        cases h
        intro G H vs Q g hv k
        obtain ⟨v, rfl, r⟩ := dv1 hv
        have rv := r.drO
        have rv' := rv
        obtain ⟨outs, hc⟩ := ansD_some hn
        cases rv with
        | @obj a _ dx us _ q1 q2 q3 =>
          refine ⟨a, dx, us, rfl, g.sub _ _ q1, spM_data (n := 1) g.sub (.cons rv' .nil) rfl hc fun u G' H' f s r => ?_⟩
          cases r
          refine ⟨n.toNat, by rw [Int.toNat_of_nonneg hb.1], by omega, k _ _ G' H' f (good0 s) (.bl _) ?_⟩
          congr 1
          exact decide_eq_decide.mpr (by omega)
      · cases h
    · cases h
  · cases h
def strO (C : Addr) (c : List Sv → Res Sv) (x : Dt) : Option Dt := if isObj C x = true then (match ansD c [x] with
    | some (.str z) => some (.str z)
    | _ => none) else strD x
theorem cs_strO : CS1 K (fun xs H Q => rStrI xs H Q ∨ rStrO C (spM K 1 [none] c) xs H Q) (strO C c) := fun x z h => by
  unfold strO at h
  split at h
  · rename_i hx
    obtain ⟨fs, rfl⟩ := isObj_t hx
    split at h
    · rename_i t ht
      cases h
      intro G H vs Q g hv k
      obtain ⟨v, rfl, r⟩ := dv1 hv
      have rv := r.drO
      have rv' := rv
      obtain ⟨outs, hc⟩ := ansD_some ht
      cases rv with
      | @obj a _ dx us _ q1 q2 q3 =>
        exact .inr ⟨a, dx, us, rfl, g.sub _ _ q1, spM_data (n := 1) g.sub (.cons rv' .nil) rfl hc fun u G' H' f s r => by
          cases r
          exact ⟨t, rfl, k _ _ G' H' f (good0 s) (.str t) rfl⟩⟩
    · cases h
  · intro G H vs Q g hv k
    exact .inl (cs_str x z h G H vs Q g hv k)
/-- y in x -/
def inO (C : Addr) (c : List Sv → Res Sv) (neg : Bool) (y x : Dt) : Option Dt := if isObj C x = true then (match ansD c [x, y] with
    | some (.bl b) => some (.bl (if neg then !b else b))
    | _ => none) else none
def mOpE (f : Dt → Dt → Option Dt) (a b : M Dt) : M Dt := fun δ => (a δ).bnd fun x δ1 => (b δ1).bnd fun y δ2 => opt (f x y) δ2
def OpE (K : PySem.W.Frag) (r : R2) (f : Dt → Dt → Option Dt) : Prop := ∀ x y z (G H : Hp) v w (Q : VK), f x y = some z → Same G H → Dr K G v x → Dr K G w y → (∀ u G' H', Fr (W0 K) G H G' H' → Same G' H' → Dr K G' u z → Q u H') → r v w H Q
theorem oe_inO {neg : Bool} : OpE K (rInO C (spM K 2 [none, none] c) neg) (inO C c neg) := fun y x z G H v w Q h s hv hw k => by
  unfold inO at h
  split at h
  · rename_i hx
    obtain ⟨fs, rfl⟩ := isObj_t hx
    split at h
    · rename_i b hb
      cases h
      have rw2 := hw
      obtain ⟨outs, hc⟩ := ansD_some hb
      cases hw with
      | @obj a _ dx us _ q1 q2 q3 =>
        exact ⟨a, dx, us, rfl, s _ _ q1, spM_data (n := 2) s (.cons rw2 (.cons hv .nil)) rfl hc fun u G' H' f s' r => by
          cases r
          exact ⟨b, rfl, k _ G' H' f s' (.bl _)⟩⟩
    · cases h
  · cases h
end
section
variable {X : Cx} {Γ : Cn} {F : Fm} [L : Lk X Γ]
variable {e e1 e2 e3 tg o : Expr} {es : List Expr} {pos p apos : Pos} {m m1 m2 m3 : M Dt} {x nm : Str} {i j k l n : Nat} {c : List Sv → Res Sv} {C : Addr} {g : Rg}
theorem so_opE {r : R2} {f : Dt → Dt → Option Dt} {ta tb : TE} (hf : OpE Γ.K r f) (ha : SoE Γ ta m1) (hb : SoE Γ tb m2) : SoE Γ (tOp r ta tb) (mOpE f m1 m2) := fun F δ G H σ Q at_ k =>
  ha F δ G H σ _ at_ ((OkR.bnd k).imp fun x δ1 G1 s1 k1 v H1 a1 r1 => hb F δ1 G1 H1 σ _ a1 ((OkR.bnd k1).imp fun y δ2 G2 s2 k2 w H2 a2 r2 => by
    obtain ⟨z, ez, k3⟩ := OkR.opt k2
    exact hf x y z G2 H2 v w Q ez a2.sub (r1.mono s2) r2 fun u G' H' f' s' r' => k3 G' f'.g u H' (a2.step f' s') r'))
theorem qe_inO (cl : ClM X.prog X.w X.K X.mg X.base k C "__contains__" (spM X.K 2 [none, none] c)) (hr : Room j X.A) (hk : k ≤ j) (ha : PM X Γ e1 m1) (hb : PM X Γ e2 m2) (hm : behindInMarks .In e2 = false := by rfl) : PM X Γ (.Compare e1 [.In] [e2] pos) (mOpE (inO C c false) m1 m2) := by
  obtain ⟨ta, h1, h2⟩ := ha
  obtain ⟨tb, h3, h4⟩ := hb
  exact ⟨_, pe_cmpR (opInO cl hr hk) h1 h3 hm, so_opE (L.k ▸ oe_inO) h2 h4⟩
theorem qt_inO (cl : ClM X.prog X.w X.K X.mg X.base k C "__contains__" (spM X.K 2 [none, none] c)) (hr : Room j X.A) (hk : k ≤ j) (ha : PM X Γ e1 m1) (hb : PM X Γ e2 m2) (hm : behindInMarks .In e2 = false := by rfl) : PB X Γ (.Compare e1 [.In] [e2] pos) fun δ => mBl (mOpE (inO C c false) m1 m2 δ) := by
  obtain ⟨ta, h1, h2⟩ := ha
  obtain ⟨tb, h3, h4⟩ := hb
  exact ⟨_, pt_cmpR (opInO cl hr hk) h1 h3 hm, so_test (so_opE (L.k ▸ oe_inO) h2 h4)⟩
theorem qe_notinO (cl : ClM X.prog X.w X.K X.mg X.base k C "__contains__" (spM X.K 2 [none, none] c)) (hr : Room j X.A) (hk : k ≤ j) (ha : PM X Γ e1 m1) (hb : PM X Γ e2 m2) (hm : behindInMarks .NotIn e2 = false := by rfl) : PM X Γ (.Compare e1 [.NotIn] [e2] pos) (mOpE (inO C c true) m1 m2) := by
  obtain ⟨ta, h1, h2⟩ := ha
  obtain ⟨tb, h3, h4⟩ := hb
  exact ⟨_, pe_cmpR (opNotInO cl hr hk) h1 h3 hm, so_opE (L.k ▸ oe_inO) h2 h4⟩
theorem qt_notinO (cl : ClM X.prog X.w X.K X.mg X.base k C "__contains__" (spM X.K 2 [none, none] c)) (hr : Room j X.A) (hk : k ≤ j) (ha : PM X Γ e1 m1) (hb : PM X Γ e2 m2) (hm : behindInMarks .NotIn e2 = false := by rfl) : PB X Γ (.Compare e1 [.NotIn] [e2] pos) fun δ => mBl (mOpE (inO C c true) m1 m2 δ) := by
  obtain ⟨ta, h1, h2⟩ := ha
  obtain ⟨tb, h3, h4⟩ := hb
  exact ⟨_, pt_cmpR (opNotInO cl hr hk) h1 h3 hm, so_test (so_opE (L.k ▸ oe_inO) h2 h4)⟩
theorem qb_boolL (hs : PySem.W.findIn X.K (.ref C) "__bool__" = some none) (cl : ClM X.prog X.w X.K X.mg X.base k C "__len__" (spM X.K 1 [none] c)) (hr : Room j X.A) (hk : k + 3 ≤ j) (hg : Gl X "bool") (hm : X.mg "bool" = none) (ha : PR X Γ e g) (he : starEach [e] X.env = (false, eval e X.env) :: starEach [] X.env := by rfl) :
    PM X Γ (.Call (.Name "bool" p) [e] [] pos) (mCB (boolL C c) g) := qe_ct1 (callBoolL hs cl hr hk) (L.k ▸ cs_boolL) hg hm (by decide +kernel) ha (by decide) (by decide) he
theorem callStrM {sp : Sp} (cl : ClM X.prog X.w X.K X.mg X.base k C "__str__" sp) (hr : Room j X.A) (hk : k + 2 ≤ j) : CallR X (.type "str") (fun xs H Q => rStrI xs H Q ∨ rStrO C sp xs H Q) := fun pins s σ H xs us Q I r h =>
  h.elim (callStrI pins s σ H xs us Q I r) (callStrO cl hr hk pins s σ H xs us Q I r)
theorem qb_strO (cl : ClM X.prog X.w X.K X.mg X.base k C "__str__" (spM X.K 1 [none] c)) (hr : Room j X.A) (hk : k + 2 ≤ j) (hg : Gl X "str") (hm : X.mg "str" = none) (ha : PR X Γ e g) (he : starEach [e] X.env = (false, eval e X.env) :: starEach [] X.env := by rfl) :
    PM X Γ (.Call (.Name "str" p) [e] [] pos) (mCB (strO C c) g) := qe_ct1 (callStrM cl hr hk) (L.k ▸ cs_strO) hg hm (by decide +kernel) ha (by decide) (by decide) he
end
end Qm

set_option Elab.async false
set_option linter.all false
set_option maxRecDepth 100000
set_option maxHeartbeats 4000000
namespace Qm
open PySem PySem.Spec PyProof.Rows L2 Pd
/-! what the mirrors of Q19 on come to -/
section
variable {α β : Type} {P : α → List Sv → Prop} {δ : List Sv}
theorem wp_cons {m : M Dt} {md : M (List Dt)} {P : List Dt → List Sv → Prop} : Wp (mCons m md δ) P = Wp (m δ) fun d δ1 => Wp (md δ1) fun ds δ2 => P (d :: ds) δ2 := by
  unfold mCons
  rw [wp_bnd]
  refine Wp.ext fun d δ1 => ?_
  rw [wp_bnd]
  exact Wp.ext fun ds δ2 => wp_ok
theorem wp_star {m : M Dt} {md : M (List Dt)} {P : List Dt → List Sv → Prop} : Wp (mStar m md δ) P = Wp (m δ) fun d δ1 => Wo (itemsD d) fun xs => Wp (md δ1) fun ds δ2 => P (xs ++ ds) δ2 := by
  unfold mStar
  rw [wp_bnd]
  refine Wp.ext fun d δ1 => ?_
  rw [wp_bnd, wp_opt]
  refine Wo.ext fun xs => ?_
  rw [wp_bnd]
  exact Wp.ext fun ds δ2 => wp_ok
theorem wp_app2 {a b : M (List Dt)} {P : List Dt → List Sv → Prop} : Wp (mApp2 a b δ) P = Wp (a δ) fun ds δ1 => Wp (b δ1) fun es δ2 => P (ds ++ es) δ2 := by
  unfold mApp2
  rw [wp_bnd]
  refine Wp.ext fun d δ1 => ?_
  rw [wp_bnd]
  exact Wp.ext fun ds δ2 => wp_ok
theorem wp_opE {f : Dt → Dt → Option Dt} {a b : M Dt} {P : Dt → List Sv → Prop} : Wp (mOpE f a b δ) P = Wp (a δ) fun x δ1 => Wp (b δ1) fun y δ2 => Wo (f x y) fun z => P z δ2 := by
  unfold mOpE
  rw [wp_bnd]
  refine Wp.ext fun d δ1 => ?_
  rw [wp_bnd]
  exact Wp.ext fun ds δ2 => wp_opt
def atD (P : Dt → Prop) (x : Sv) (_ : Hid P := .mk) : Prop := match x with
  | .dat d => P d
  | _ => False
theorem atD_dat {d : Dt} {P : Dt → Prop} : atD P (.dat d) = P d := id rfl
theorem wp_exc {x : Xc} : Wp (.exc x δ : Res α) P = False := by
  rw [wp_def]
  rfl
theorem wp_ansU {c : List Sv → Res Sv} {arr : Arr} {ds : List Dt} {P : Dt → List Sv → Prop} : Wp (ansU c arr ds δ) P = Wo (arr ds) fun es => Wp (c (es.map .dat)) fun s _ => atD (fun d => P d δ) s := by
  unfold ansU
  cases arr ds with
  | none => exact wp_bad
  | some es =>
    show Wp (match c (es.map .dat) with
      | .ok (.dat d) _ => .ok d δ
      | _ => .bad) P = Wp _ _
    generalize c (es.map .dat) = r
    cases r with
    | bad => rw [wp_bad, wp_bad]
    | exc x o => rw [wp_bad, wp_exc]
    | ok s o =>
      rw [wp_ok]
      cases s <;> first | exact wp_ok | exact wp_bad
theorem wp_U {c : List Sv → Res Sv} {arr : Arr} {md : M (List Dt)} {P : Dt → List Sv → Prop} : Wp (mU c arr md δ) P = Wp (md δ) fun ds δ1 => Wo (arr ds) fun es => Wp (c (es.map .dat)) fun s _ => atD (fun d => P d δ1) s := by
  unfold mU
  rw [wp_bnd]
  exact Wp.ext fun ds δ1 => wp_ansU
def atOb (C : Addr) (nm : Str) (P : Prop) (d : Dt) (_ : Hid P := .mk) : Prop := match d with
  | .obj C' fs => (C' = C ∧ fs.lookup nm = none) ∧ P
  | _ => False
theorem atOb_obj {C C' : Addr} {nm : Str} {P : Prop} {fs : List (Str × Dt)} : atOb C nm P (.obj C' fs) = ((C' = C ∧ fs.lookup nm = none) ∧ P) := id rfl
theorem wp_UM {C : Addr} {nm : Str} {c : List Sv → Res Sv} {arr : Arr} {o : M Dt} {md : M (List Dt)} {P : Dt → List Sv → Prop} : Wp (mUM C nm c arr o md δ) P = Wp (o δ) fun d δ1 => atOb C nm (Wp (md δ1) fun ds δ2 => Wo (arr (d :: ds)) fun es => Wp (c (es.map .dat)) fun s _ => atD (fun d => P d δ2) s) d := by
  unfold mUM
  rw [wp_bnd]
  refine Wp.ext fun d δ1 => ?_
  cases d <;> try exact wp_bad
  rename_i C' fs
  show Wp (if _ then _ else _) P = _
  rw [wp_ite, atOb_obj, wp_bnd]
  refine congrArg (_ ∧ ·) (Wp.ext fun ds δ2 => wp_ansU)
theorem wp_insU {C : Addr} {r : Res Sv} {P : Dt → List Sv → Prop} : Wp (insU C r δ) P = Wp r fun s os => atX C (fun fs => P (.obj C fs) δ) s os := by
  unfold insU
  cases r with
  | bad => rw [wp_bad, wp_bad]
  | exc x o => rw [wp_bad, wp_exc]
  | ok s o =>
    rw [wp_ok]
    unfold atX
    split
    · rename_i h
      cases h
      rw [wp_ite, wp_ok]
    · rename_i h
      split
      · exact absurd rfl (h _ _ _)
      · exact wp_bad
theorem wp_UI {C : Addr} {c : List Sv → Res Sv} {arr : Arr} {md : M (List Dt)} {P : Dt → List Sv → Prop} : Wp (mUI C c arr md δ) P = Wp (md δ) fun ds δ1 => Wo (arr ds) fun es => Wp (c (.ins C [] :: es.map .dat)) fun s os => atX C (fun fs => P (.obj C fs) δ1) s os := by
  unfold mUI
  rw [wp_bnd]
  refine Wp.ext fun ds δ1 => ?_
  rw [wp_bnd, wp_opt]
  exact Wo.ext fun es => wp_insU
theorem wo_arrP {n : Nat} {pk : List Nat} {ds : List Dt} {P : List Dt → Prop} : Wo (arrP n pk ds) P = (ds.length = n ∧ P (pk.map fun i => ds.getD i .non)) := wo_ite
theorem wo_arrS {n : Nat} {ds : List Dt} {P : List Dt → Prop} : Wo (arrS n ds) P = ((n ≤ ds.length ∧ ds.length ≤ 100000) ∧ P (ds.take n ++ [.tup (ds.drop n)])) := wo_ite
theorem wo_arrPS {n : Nat} {pk : List Nat} {ds : List Dt} {P : List Dt → Prop} : Wo (arrPS n pk ds) P = (ds.length = n ∧ P ((pk.map fun i => ds.getD i .non) ++ [.tup []])) := wo_ite
end
theorem wo_notin {x : Dt} {ys : List Dt} {P : Dt → Prop} (hx : pureD x = true) (hy : puresD ys = true) (hd : depD x ≤ 60) (h : ∀ b, (b = true ↔ x ∈ ys) → P (.bl (!b))) : Qm.Wo (notInD x (.lst ys)) P := by
  obtain ⟨b, e, _, hb⟩ := inB_pure hx hy hd
  unfold notInD
  rw [e]
  exact h b hb
theorem wo_notinT {x : Dt} {ys : List Dt} {P : Dt → Prop} (hx : pureD x = true) (hy : puresD ys = true) (hd : depD x ≤ 60) (h : ∀ b, (b = true ↔ x ∈ ys) → P (.bl (!b))) : Qm.Wo (notInD x (.tup ys)) P := by
  obtain ⟨b, _, e, hb⟩ := inB_pure hx hy hd
  unfold notInD
  rw [e]
  exact h b hb
theorem atI_6 {α : Type} {a0 a1 a2 a3 a4 a5 a6 : α} {l : List α} : atI (a0 :: a1 :: a2 :: a3 :: a4 :: a5 :: a6 :: l) 6 = some a6 := by
  unfold atI ixN
  rw [if_pos (by decide), if_pos (by simp only [List.length_cons]; omega)]
  rfl
theorem atI_7 {α : Type} {a0 a1 a2 a3 a4 a5 a6 a7 : α} {l : List α} : atI (a0 :: a1 :: a2 :: a3 :: a4 :: a5 :: a6 :: a7 :: l) 7 = some a7 := by
  unfold atI ixN
  rw [if_pos (by decide), if_pos (by simp only [List.length_cons]; omega)]
  rfl
theorem atI_8 {α : Type} {a0 a1 a2 a3 a4 a5 a6 a7 a8 : α} {l : List α} : atI (a0 :: a1 :: a2 :: a3 :: a4 :: a5 :: a6 :: a7 :: a8 :: l) 8 = some a8 := by
  unfold atI ixN
  rw [if_pos (by decide), if_pos (by simp only [List.length_cons]; omega)]
  rfl
theorem atI_9 {α : Type} {a0 a1 a2 a3 a4 a5 a6 a7 a8 a9 : α} {l : List α} : atI (a0 :: a1 :: a2 :: a3 :: a4 :: a5 :: a6 :: a7 :: a8 :: a9 :: l) 9 = some a9 := by
  unfold atI ixN
  rw [if_pos (by decide), if_pos (by simp only [List.length_cons]; omega)]
  rfl
theorem atI_10 {α : Type} {a0 a1 a2 a3 a4 a5 a6 a7 a8 a9 a10 : α} {l : List α} : atI (a0 :: a1 :: a2 :: a3 :: a4 :: a5 :: a6 :: a7 :: a8 :: a9 :: a10 :: l) 10 = some a10 := by
  unfold atI ixN
  rw [if_pos (by decide), if_pos (by simp only [List.length_cons]; omega)]
  rfl
theorem atI_11 {α : Type} {a0 a1 a2 a3 a4 a5 a6 a7 a8 a9 a10 a11 : α} {l : List α} : atI (a0 :: a1 :: a2 :: a3 :: a4 :: a5 :: a6 :: a7 :: a8 :: a9 :: a10 :: a11 :: l) 11 = some a11 := by
  unfold atI ixN
  rw [if_pos (by decide), if_pos (by simp only [List.length_cons]; omega)]
  rfl
theorem atI_12 {α : Type} {a0 a1 a2 a3 a4 a5 a6 a7 a8 a9 a10 a11 a12 : α} {l : List α} : atI (a0 :: a1 :: a2 :: a3 :: a4 :: a5 :: a6 :: a7 :: a8 :: a9 :: a10 :: a11 :: a12 :: l) 12 = some a12 := by
  unfold atI ixN
  rw [if_pos (by decide), if_pos (by simp only [List.length_cons]; omega)]
  rfl
/-! sorting data of one shape -/
theorem srt_same {α : Type} {f : α → Dt} (inj : ∀ a b, PySem.W.keyToks (pyD (f a)) = PySem.W.keyToks (pyD (f b)) → a = b) {l m : List α} (h : l.Perm m) : srt pyD (l.map f) = srt pyD (m.map f) := by
  have e : ∀ l : List α, srt pyD (l.map f) = (srt (fun a => pyD (f a)) l).map f := fun l => (List.map_mergeSort (r := PySem.W.dataLe false fun x => pyD (f x)) (s := PySem.W.dataLe false pyD) (f := f) fun a _ b _ => rfl).symm
  rw [e, e, srt_eq inj h]
theorem sortA_same {α : Type} {f : α → Dt} (inj : ∀ a b, PySem.W.keyToks (pyD (f a)) = PySem.W.keyToks (pyD (f b)) → a = b) {l m l' m' : List α} (h : l.Perm m) (h1 : sortA (.lst (l.map f)) = some (.lst (l'.map f))) (h2 : sortA (.lst (m.map f)) = some (.lst (m'.map f))) : l'.map f = m'.map f := by
  have go : ∀ {l l' : List α}, sortA (.lst (l.map f)) = some (.lst (l'.map f)) → l'.map f = srt pyD (l.map f) := fun {l l'} h => by
    have h : sortD (.lst (l.map f)) = _ := h
    unfold sortD at h
    simp only at h
    split at h
    · split at h
      · exact (Dt.lst.inj (Option.some.inj h)).symm
      · cases h
    · cases h
  rw [go h1, go h2, srt_same inj h]
end Qm

set_option Elab.async false
set_option linter.all false
set_option maxRecDepth 100000
set_option maxHeartbeats 4000000
namespace K21
open PySem PySem.Spec PyProof.Rows L2 Pd Qm
def top (i : Nat) : Stmt := PySem.Challenge.pw_everysite_k21_walk_rules_made.main.body.getD i (.Pass ⟨0, 0, 0, 0⟩)
/-- the addresses of the text -/
structure Ca where
  Walk : Addr
/-- what the text holds -/
structure Txt (K : PySem.W.Frag) (mg : Str → Option Value) (A : Ca) : Prop where
  b_int : mg "int" = none
  b_abs : mg "abs" = none
  b_len : mg "len" = none
  b_divmod : mg "divmod" = none
  b_range : mg "range" = none
  b_list : mg "list" = none
  b_tuple : mg "tuple" = none
  b_isinstance : mg "isinstance" = none
  b_bool : mg "bool" = none
  b_str : mg "str" = none
  b_all : mg "all" = none
  b_enumerate : mg "enumerate" = none
  b_sorted : mg "sorted" = none
  b_repr : mg "repr" = none
  b_max : mg "max" = none
  b_min : mg "min" = none
  c_LONGEST : ∃ u, mg "LONGEST" = some u ∧ RelV (.int 8) u
  c_LETTERS : ∃ u, mg "LETTERS" = some u ∧ RelV (.str "abcdefghijklmnopqrstuvwxyz") u
  c_SIGNS : ∃ u, mg "SIGNS" = some u ∧ RelV (.str "abcdefghijklmnopqrstuvwxyz0123456789") u
  c_ALONG : ∃ u, mg "ALONG" = some u ∧ RelV (.str "along") u
  c_AGAINST : ∃ u, mg "AGAINST" = some u ∧ RelV (.str "against") u
  c_MOST_STEPS : ∃ u, mg "MOST_STEPS" = some u ∧ RelV (.int 12) u
  c_MOST_STATES : ∃ u, mg "MOST_STATES" = some u ∧ RelV (.int 3) u
  k_Walk : ∃ u, mg "Walk" = some u ∧ RelV (.ref A.Walk) u
  e_Walk : KdE K A.Walk
  nb_Walk : PySem.W.findIn K (.ref A.Walk) "__bool__" = some none
  nf_Walk_states : NoAttr K A.Walk "states"
  nf_Walk_steps : NoAttr K A.Walk "steps"
def csl (A : Ca) : List Addr := [A.Walk]
def tb (A : Ca) : Addr → V → Option Bool := tbOf (csl A)
section
variable {K : PySem.W.Frag} {mg : Str → Option Value} {A : Ca}
theorem Txt.cs (T : Txt K mg A) : ClsOk K (csl A) := fun C h => by
  simp only [csl, List.mem_cons, List.not_mem_nil, or_false] at h
  rcases h with rfl
  · exact T.e_Walk.kd
theorem Txt.tb (T : Txt K mg A) : TbOk K (tb A) := tbOf_ok T.cs
theorem Txt.f_states (T : Txt K mg A) : ∀ C ∈ [A.Walk], Cls K C ∧ NoAttr K C "states" := fun C h => by
  simp only [List.mem_cons, List.not_mem_nil, or_false] at h
  rcases h with rfl
  · exact ⟨T.e_Walk.kd.cl, T.nf_Walk_states⟩
theorem Txt.f_steps (T : Txt K mg A) : ∀ C ∈ [A.Walk], Cls K C ∧ NoAttr K C "steps" := fun C h => by
  simp only [List.mem_cons, List.not_mem_nil, or_false] at h
  rcases h with rfl
  · exact ⟨T.e_Walk.kd.cl, T.nf_Walk_steps⟩
end
abbrev s__law_pool : Stmt := top 26
abbrev N__law_pool : List Str := ["_law_cell_here", "_law_seed", "_law_digits"]
theorem sc__law_pool : FnScope N__law_pool ["_law_cell_here"] (defScope s__law_pool) := ⟨rfl, rfl, rfl, by decide +kernel, rfl, by decide +kernel, by decide +kernel⟩
noncomputable def m__law_pool (A : Ca) : M Fl :=
  (mSeq (mAsg 1 (mOp modD (.ex (mCB intD (.ex (mVar 0)))) (.ex (mC (.int 2147483563)))))
  (mSeq (mAsg 2 (mIf (mOr (fun δ => mBl ((mOp ltD (.ex (mVar 0)) (.ex (mC (.int 0)))) δ)) (fun δ => mBl ((mOp geD (.ex (mVar 0)) (.ex (mOp powD (.ex (mC (.int 10))) (.ex (mC (.int 18)))))) δ))) (mCB absD (.ex (mVar 0))) (mC (.int 0))))
  (mRetO (mLstN [(mOp modD (.ex (mCB intD (.ex (mOp addD (.ex (mOp addD (.ex (mOp mulD (.ex (mOp mulD (.ex (mVar 1)) (.ex (mVar 1)))) (.ex (mC (.int 7919))))) (.ex (mOp mulD (.ex (mVar 1)) (.ex (mC (.int 104729))))))) (.ex (mC (.int 1299709))))))) (.ex (mC (.int 2147483563)))), (mVar 2), (mC (.int 0))]))))
noncomputable def c__law_pool (A : Ca) : List Sv → Res Sv := fnOf 3 1 0 (m__law_pool A)
theorem ok__law_pool {P : Program} {w : World} {K : PySem.W.Frag} {mg : Str → Option Value} {base : Heap} {A : Ca} {f : Addr} {fd : FuncData} (Fn : Fun K "_law_pool" "_law_pool" s__law_pool f fd) (T : Txt K mg A)  : FnOk P w K mg base L2.CX0 1 f fd ["_law_cell_here"] (spM K 1 [none] (c__law_pool A)) :=
  fnO Fn sc__law_pool (by decide) (kd_of (by decide)) (fun cdv A0 outer s H E Γ hr hK hps hn L => by
    have np : ∀ i, i ∉ ([none] : List (Option Nat)).filterMap id → i ∉ Γ.ps := fun i h => hps ▸ h
    have npl : ∀ vs : List Nat, (∀ v ∈ vs, v ∉ ([none] : List (Option Nat)).filterMap id) → ∀ v ∈ vs, v ∉ Γ.ps := fun vs h => hps ▸ h
    have nn : ∀ i, i < (N__law_pool).length → i < Γ.n := fun i h => hn ▸ h
    exact (qss_cons (qs_set (i := 1) sc__law_pool.nd rfl (by first | exact .inl rfl | exact .inr rfl) (np 1 (by decide)) (qe_mod (PM.r (qb_int (by rfl) T.b_int (PM.r (qv (i := 0) rfl (by first | exact .inl rfl | exact .inr (.inl rfl) | exact .inr (.inr rfl)))))) (PM.r qe_int)))
      (qss_cons (qs_set (i := 2) sc__law_pool.nd rfl (by first | exact .inl rfl | exact .inr rfl) (np 2 (by decide)) (qe_if (PBw.pt (qw_or (qt_lt (PM.r (qv (i := 0) rfl (by first | exact .inl rfl | exact .inr (.inl rfl) | exact .inr (.inr rfl)))) (PM.r qe_int)) (qw_or1 (qt_ge (PM.r (qv (i := 0) rfl (by first | exact .inl rfl | exact .inr (.inl rfl) | exact .inr (.inr rfl)))) (PM.r (qe_pow (PM.r qe_int) (PM.r qe_int))))))) (qb_abs (by rfl) T.b_abs (PM.r (qv (i := 0) rfl (by first | exact .inl rfl | exact .inr (.inl rfl) | exact .inr (.inr rfl))))) qe_int))
      (qss_one (qs_retO (qo_lst (qa_cons (qe_mod (PM.r (qb_int (by rfl) T.b_int (PM.r (qe_add (PM.r (qe_add (PM.r (qe_mul (PM.r (qe_mul (PM.r (qv (i := 1) rfl (by first | exact .inl rfl | exact .inr (.inl rfl) | exact .inr (.inr rfl)))) (PM.r (qv (i := 1) rfl (by first | exact .inl rfl | exact .inr (.inl rfl) | exact .inr (.inr rfl)))))) (PM.r qe_int))) (PM.r (qe_mul (PM.r (qv (i := 1) rfl (by first | exact .inl rfl | exact .inr (.inl rfl) | exact .inr (.inr rfl)))) (PM.r qe_int))))) (PM.r qe_int))))) (PM.r qe_int)) (qa_cons (qv (i := 2) rfl (by first | exact .inl rfl | exact .inr (.inl rfl) | exact .inr (.inr rfl))) (qa_cons qe_int qa_nil)))))))))
abbrev s__law_cell : Stmt := top 25
abbrev N__law_cell : List Str := ["_law_cells", "_law_k", "_law_mixed", "_law_one"]
theorem sc__law_cell : FnScope N__law_cell ["_law_cells", "_law_k"] (defScope s__law_cell) := ⟨rfl, rfl, rfl, by decide +kernel, rfl, by decide +kernel, by decide +kernel⟩
noncomputable def m__law_cell (A : Ca) : M Fl :=
  (mSeq (mIf (fun δ => mBl ((mOp ltD (.ex (mVar 1)) (.ex (mCB lenD (.ex (mVar 0))))) δ)) (mRet (mOp ixD (.ex (mVar 0)) (.ex (mVar 1)))) mNx)
  (mSeq (mAsg 2 (mOp addD (.ex (mC (.int 911))) (.ex (mOp mulD (.ex (mC (.int 31))) (.ex (mVar 1))))))
  (mSeq (mFor (mIter (mSl (.ex (mVar 0)) none (some (mC (.int 2))))) (tgN 3) (mAsg 2 (mOp addD (.ex (mOp modD (.ex (mCB intD (.ex (mOp addD (.ex (mOp mulD (.ex (mVar 2)) (.ex (mC (.int 48883))))) (.ex (mVar 3)))))) (.ex (mC (.int 2147483563))))) (.ex (mVar 1)))))
  (mRet (mVar 2)))))
noncomputable def c__law_cell (A : Ca) : List Sv → Res Sv := fnOf 4 2 0 (m__law_cell A)
theorem ok__law_cell {P : Program} {w : World} {K : PySem.W.Frag} {mg : Str → Option Value} {base : Heap} {A : Ca} {f : Addr} {fd : FuncData} (Fn : Fun K "_law_cell" "_law_cell" s__law_cell f fd) (T : Txt K mg A)  : FnOk P w K mg base L2.CX0 1 f fd ["_law_cells", "_law_k"] (spM K 2 [none, none] (c__law_cell A)) :=
  fnO Fn sc__law_cell (by decide) (kd_of (by decide)) (fun cdv A0 outer s H E Γ hr hK hps hn L => by
    have np : ∀ i, i ∉ ([none, none] : List (Option Nat)).filterMap id → i ∉ Γ.ps := fun i h => hps ▸ h
    have npl : ∀ vs : List Nat, (∀ v ∈ vs, v ∉ ([none, none] : List (Option Nat)).filterMap id) → ∀ v ∈ vs, v ∉ Γ.ps := fun vs h => hps ▸ h
    have nn : ∀ i, i < (N__law_cell).length → i < Γ.n := fun i h => hn ▸ h
    exact (qss_cons (qs_if (qt_lt (PM.r (qv (i := 1) rfl (by first | exact .inl rfl | exact .inr (.inl rfl) | exact .inr (.inr rfl)))) (PM.r (qb_len (by rfl) T.b_len (PM.r (qv (i := 0) rfl (by first | exact .inl rfl | exact .inr (.inl rfl) | exact .inr (.inr rfl))))))) (qss_one (qs_ret (qe_item (PM.r (qv (i := 0) rfl (by first | exact .inl rfl | exact .inr (.inl rfl) | exact .inr (.inr rfl)))) (PM.r (qv (i := 1) rfl (by first | exact .inl rfl | exact .inr (.inl rfl) | exact .inr (.inr rfl))))))) qss_nil)
      (qss_cons (qs_set (i := 2) sc__law_cell.nd rfl (by first | exact .inl rfl | exact .inr rfl) (np 2 (by decide)) (qe_add (PM.r qe_int) (PM.r (qe_mul (PM.r qe_int) (PM.r (qv (i := 1) rfl (by first | exact .inl rfl | exact .inr (.inl rfl) | exact .inr (.inr rfl))))))))
      (qss_cons (qs_for PassesOwn.never (qi_seq (qe_sl (PM.r (qv (i := 0) rfl (by first | exact .inl rfl | exact .inr (.inl rfl) | exact .inr (.inr rfl)))) qp_none (qp_some qe_int))) (qg_name (i := 3) sc__law_cell.nd rfl (by first | exact .inl rfl | exact .inr rfl) (np 3 (by decide))) (qss_one (qs_set (i := 2) sc__law_cell.nd rfl (by first | exact .inl rfl | exact .inr rfl) (np 2 (by decide)) (qe_add (PM.r (qe_mod (PM.r (qb_int (by rfl) T.b_int (PM.r (qe_add (PM.r (qe_mul (PM.r (qv (i := 2) rfl (by first | exact .inl rfl | exact .inr (.inl rfl) | exact .inr (.inr rfl)))) (PM.r qe_int))) (PM.r (qv (i := 3) rfl (by first | exact .inl rfl | exact .inr (.inl rfl) | exact .inr (.inr rfl)))))))) (PM.r qe_int))) (PM.r (qv (i := 1) rfl (by first | exact .inl rfl | exact .inr (.inl rfl) | exact .inr (.inr rfl))))))))
      (qss_one (qs_ret (qv (i := 2) rfl (by first | exact .inl rfl | exact .inr (.inl rfl) | exact .inr (.inr rfl)))))))))
abbrev s__law_draw : Stmt := top 27
abbrev N__law_draw : List Str := ["_law_pool_here", "_law_many", "_law_digit", "_law_seed"]
theorem sc__law_draw : FnScope N__law_draw ["_law_pool_here", "_law_many"] (defScope s__law_draw) := ⟨rfl, rfl, rfl, by decide +kernel, rfl, by decide +kernel, by decide +kernel⟩
noncomputable def m__law_draw (A : Ca) : M Fl :=
  (mSeq (mAsgT (tgSub 0 (mC (.int 2))) (mOp addD (.ex (mOp ixD (.pk 0) (.ex (mC (.int 2))))) (.ex (mC (.int 1)))))
  (mSeq (mIf (fun δ => mBl ((mOp gtD (.ex (mOp ixD (.pk 0) (.ex (mC (.int 1))))) (.ex (mC (.int 0)))) δ)) (mSeq (mAsgT (tgT 2 (tgCons (tgSub 0 (mC (.int 1))) (tgCons (tgN 2) tgNil))) (mOp dmD (.ex (mOp ixD (.pk 0) (.ex (mC (.int 1))))) (.ex (mVar 1))))
  (mRet (mVar 2))) mNx)
  (mSeq (mAsg 3 (mCB intD (.ex (mOp ixD (.pk 0) (.ex (mC (.int 0)))))))
  (mSeq (mAsgT (tgSub 0 (mC (.int 0))) (mOp modD (.ex (mCB intD (.ex (mOp addD (.ex (mOp addD (.ex (mOp mulD (.ex (mVar 3)) (.ex (mOp addD (.ex (mOp modD (.ex (mCB intD (.ex (mVar 3)))) (.ex (mC (.int 40009))))) (.ex (mC (.int 20011))))))) (.ex (mOp mulD (.ex (mC (.int 61417))) (.ex (mOp ixD (.pk 0) (.ex (mC (.int 2))))))))) (.ex (mC (.int 5))))))) (.ex (mC (.int 2147483563)))))
  (mRet (mOp modD (.ex (mCB intD (.ex (mOp divD (.ex (mOp ixD (.pk 0) (.ex (mC (.int 0))))) (.ex (mC (.int 128))))))) (.ex (mVar 1))))))))
noncomputable def c__law_draw (A : Ca) : List Sv → Res Sv := fnOf 4 2 1 (m__law_draw A)
theorem ok__law_draw {P : Program} {w : World} {K : PySem.W.Frag} {mg : Str → Option Value} {base : Heap} {A : Ca} {f : Addr} {fd : FuncData} (Fn : Fun K "_law_draw" "_law_draw" s__law_draw f fd) (T : Txt K mg A)  : FnOk P w K mg base L2.CX0 1 f fd ["_law_pool_here", "_law_many"] (spM K 2 [some 0, none] (c__law_draw A)) :=
  fnO Fn sc__law_draw (by decide) (kd_of (by decide)) (fun cdv A0 outer s H E Γ hr hK hps hn L => by
    have np : ∀ i, i ∉ ([some 0, none] : List (Option Nat)).filterMap id → i ∉ Γ.ps := fun i h => hps ▸ h
    have npl : ∀ vs : List Nat, (∀ v ∈ vs, v ∉ ([some 0, none] : List (Option Nat)).filterMap id) → ∀ v ∈ vs, v ∉ Γ.ps := fun vs h => hps ▸ h
    have nn : ∀ i, i < (N__law_draw).length → i < Γ.n := fun i h => hn ▸ h
    exact (qss_cons (qs_asg (qe_add (PM.r (qe_item (qr_pk (i := 0) rfl (by first | exact .inl rfl | exact .inr (.inl rfl) | exact .inr (.inr rfl))) (PM.r qe_int))) (PM.r qe_int)) (qg_sub (i := 0) rfl (by first | exact .inl rfl | exact .inr (.inl rfl) | exact .inr (.inr rfl)) qe_int))
      (qss_cons (qs_if (qt_gt (PM.r (qe_item (qr_pk (i := 0) rfl (by first | exact .inl rfl | exact .inr (.inl rfl) | exact .inr (.inr rfl))) (PM.r qe_int))) (PM.r qe_int)) (qss_cons (qs_asg (qb_divmod (by rfl) T.b_divmod (PM.r (qe_item (qr_pk (i := 0) rfl (by first | exact .inl rfl | exact .inr (.inl rfl) | exact .inr (.inr rfl))) (PM.r qe_int))) (PM.r (qv (i := 1) rfl (by first | exact .inl rfl | exact .inr (.inl rfl) | exact .inr (.inr rfl))))) (qg_tup (n := 2) (qg_cons (qg_sub (i := 0) rfl (by first | exact .inl rfl | exact .inr (.inl rfl) | exact .inr (.inr rfl)) qe_int) (qg_cons (qg_name (i := 2) sc__law_draw.nd rfl (by first | exact .inl rfl | exact .inr rfl) (np 2 (by decide))) qg_nil))))
      (qss_one (qs_ret (qv (i := 2) rfl (by first | exact .inl rfl | exact .inr (.inl rfl) | exact .inr (.inr rfl)))))) qss_nil)
      (qss_cons (qs_set (i := 3) sc__law_draw.nd rfl (by first | exact .inl rfl | exact .inr rfl) (np 3 (by decide)) (qb_int (by rfl) T.b_int (PM.r (qe_item (qr_pk (i := 0) rfl (by first | exact .inl rfl | exact .inr (.inl rfl) | exact .inr (.inr rfl))) (PM.r qe_int)))))
      (qss_cons (qs_asg (qe_mod (PM.r (qb_int (by rfl) T.b_int (PM.r (qe_add (PM.r (qe_add (PM.r (qe_mul (PM.r (qv (i := 3) rfl (by first | exact .inl rfl | exact .inr (.inl rfl) | exact .inr (.inr rfl)))) (PM.r (qe_add (PM.r (qe_mod (PM.r (qb_int (by rfl) T.b_int (PM.r (qv (i := 3) rfl (by first | exact .inl rfl | exact .inr (.inl rfl) | exact .inr (.inr rfl)))))) (PM.r qe_int))) (PM.r qe_int))))) (PM.r (qe_mul (PM.r qe_int) (PM.r (qe_item (qr_pk (i := 0) rfl (by first | exact .inl rfl | exact .inr (.inl rfl) | exact .inr (.inr rfl))) (PM.r qe_int))))))) (PM.r qe_int))))) (PM.r qe_int)) (qg_sub (i := 0) rfl (by first | exact .inl rfl | exact .inr (.inl rfl) | exact .inr (.inr rfl)) qe_int))
      (qss_one (qs_ret (qe_mod (PM.r (qb_int (by rfl) T.b_int (PM.r (qe_div (PM.r (qe_item (qr_pk (i := 0) rfl (by first | exact .inl rfl | exact .inr (.inl rfl) | exact .inr (.inr rfl))) (PM.r qe_int))) (PM.r qe_int))))) (PM.r (qv (i := 1) rfl (by first | exact .inl rfl | exact .inr (.inl rfl) | exact .inr (.inr rfl))))))))))))
abbrev s__law_name : Stmt := top 28
abbrev N__law_name : List Str := ["_law_pool_here", "_law_fewest", "_law_most", "_law_letters", "_law_found", "_law_turn"]
theorem sc__law_name : FnScope N__law_name ["_law_pool_here", "_law_fewest", "_law_most"] (defScope s__law_name) := ⟨rfl, rfl, rfl, by decide +kernel, rfl, by decide +kernel, by decide +kernel⟩
noncomputable def m__law_name (A : Ca) : M Fl :=
  (mSeq (mAsg 3 (mC (.str "abcdefghijklmnopqrstuvwxyz")))
  (mSeq (mAsg 4 (mOp ixD (.ex (mVar 3)) (.ex (mFz (mCall (c__law_draw A) [(.io 0), (.ex (mC (.int 26)))])))))
  (mSeq (mFor (mRng1 (mOp addD (.ex (mOp subD (.ex (mVar 1)) (.ex (mC (.int 1))))) (.ex (mFz (mCall (c__law_draw A) [(.io 0), (.ex (mOp addD (.ex (mOp subD (.ex (mVar 2)) (.ex (mVar 1)))) (.ex (mC (.int 1)))))]))))) (tgN 5) (mAsg 4 (mOp addD (.ex (mVar 4)) (.ex (mOp ixD (.ex (mOp addD (.ex (mVar 3)) (.ex (mC (.str "0123456789"))))) (.ex (mFz (mCall (c__law_draw A) [(.io 0), (.ex (mC (.int 36)))]))))))))
  (mRet (mVar 4)))))
noncomputable def c__law_name (A : Ca) : List Sv → Res Sv := fnOf 6 3 1 (m__law_name A)
theorem ok__law_name {P : Program} {w : World} {K : PySem.W.Frag} {mg : Str → Option Value} {base : Heap} {A : Ca} {f : Addr} {fd : FuncData} (Fn : Fun K "_law_name" "_law_name" s__law_name f fd) (T : Txt K mg A) (h__law_draw : Cl P w K mg base 1 "_law_draw" (spM K 2 [some 0, none] (c__law_draw A))) : FnOk P w K mg base L2.CX0 2 f fd ["_law_pool_here", "_law_fewest", "_law_most"] (spM K 3 [some 0, none, none] (c__law_name A)) :=
  fnO Fn sc__law_name (by decide) (kd_of (by decide)) (fun cdv A0 outer s H E Γ hr hK hps hn L => by
    have np : ∀ i, i ∉ ([some 0, none, none] : List (Option Nat)).filterMap id → i ∉ Γ.ps := fun i h => hps ▸ h
    have npl : ∀ vs : List Nat, (∀ v ∈ vs, v ∉ ([some 0, none, none] : List (Option Nat)).filterMap id) → ∀ v ∈ vs, v ∉ Γ.ps := fun vs h => hps ▸ h
    have nn : ∀ i, i < (N__law_name).length → i < Γ.n := fun i h => hn ▸ h
    exact (qss_cons (qs_set (i := 3) sc__law_name.nd rfl (by first | exact .inl rfl | exact .inr rfl) (np 3 (by decide)) qe_str)
      (qss_cons (qs_set (i := 4) sc__law_name.nd rfl (by first | exact .inl rfl | exact .inr rfl) (np 4 (by decide)) (qe_item (PM.r (qv (i := 3) rfl (by first | exact .inl rfl | exact .inr (.inl rfl) | exact .inr (.inr rfl)))) (PM.r (qe_fz (qo_call h__law_draw hr (by decide) (by rfl) (qag_io (i := 0) rfl (by first | exact .inl rfl | exact .inr (.inl rfl) | exact .inr (.inr rfl)) (qag_ex qe_int qag_nil)))))))
      (qss_cons (qs_for PassesOwn.never (qi_rng1 (by rfl) T.b_range (qe_add (PM.r (qe_sub (PM.r (qv (i := 1) rfl (by first | exact .inl rfl | exact .inr (.inl rfl) | exact .inr (.inr rfl)))) (PM.r qe_int))) (PM.r (qe_fz (qo_call h__law_draw hr (by decide) (by rfl) (qag_io (i := 0) rfl (by first | exact .inl rfl | exact .inr (.inl rfl) | exact .inr (.inr rfl)) (qag_ex (qe_add (PM.r (qe_sub (PM.r (qv (i := 2) rfl (by first | exact .inl rfl | exact .inr (.inl rfl) | exact .inr (.inr rfl)))) (PM.r (qv (i := 1) rfl (by first | exact .inl rfl | exact .inr (.inl rfl) | exact .inr (.inr rfl)))))) (PM.r qe_int)) qag_nil))))))) (qg_name (i := 5) sc__law_name.nd rfl (by first | exact .inl rfl | exact .inr rfl) (np 5 (by decide))) (qss_one (qs_set (i := 4) sc__law_name.nd rfl (by first | exact .inl rfl | exact .inr rfl) (np 4 (by decide)) (qe_add (PM.r (qv (i := 4) rfl (by first | exact .inl rfl | exact .inr (.inl rfl) | exact .inr (.inr rfl)))) (PM.r (qe_item (PM.r (qe_add (PM.r (qv (i := 3) rfl (by first | exact .inl rfl | exact .inr (.inl rfl) | exact .inr (.inr rfl)))) (PM.r qe_str))) (PM.r (qe_fz (qo_call h__law_draw hr (by decide) (by rfl) (qag_io (i := 0) rfl (by first | exact .inl rfl | exact .inr (.inl rfl) | exact .inr (.inr rfl)) (qag_ex qe_int qag_nil)))))))))))
      (qss_one (qs_ret (qv (i := 4) rfl (by first | exact .inl rfl | exact .inr (.inl rfl) | exact .inr (.inr rfl)))))))))
abbrev s__law_words : Stmt := top 29
abbrev N__law_words : List Str := ["_law_pool_here", "_law_one", "_law_two", "_law_three"]
theorem sc__law_words : FnScope N__law_words ["_law_pool_here"] (defScope s__law_words) := ⟨rfl, rfl, rfl, by decide +kernel, rfl, by decide +kernel, by decide +kernel⟩
noncomputable def m__law_words (A : Ca) : M Fl :=
  (mSeq (mAsg 1 (mFz (mCall (c__law_name A) [(.io 0), (.ex (mC (.int 1))), (.ex (mC (.int 6)))])))
  (mSeq (mAsg 2 (mOp addD (.ex (mVar 1)) (.ex (mOp ixD (.ex (mC (.str "abcdefghijklmnopqrstuvwxyz0123456789"))) (.ex (mFz (mCall (c__law_draw A) [(.io 0), (.ex (mC (.int 36)))])))))))
  (mSeq (mAsg 3 (mFz (mCall (c__law_name A) [(.io 0), (.ex (mC (.int 1))), (.ex (mC (.int 8)))])))
  (mRet (mLst [(mVar 1), (mVar 2), (mIf (fun δ => mBl ((mOp inD (.ex (mVar 3)) (.ex (mLst [(mVar 1), (mVar 2)]))) δ)) (mOp addD (.ex (mVar 1)) (.ex (mC (.str "x0")))) (mVar 3))])))))
noncomputable def c__law_words (A : Ca) : List Sv → Res Sv := fnOf 4 1 1 (m__law_words A)
theorem ok__law_words {P : Program} {w : World} {K : PySem.W.Frag} {mg : Str → Option Value} {base : Heap} {A : Ca} {f : Addr} {fd : FuncData} (Fn : Fun K "_law_words" "_law_words" s__law_words f fd) (T : Txt K mg A) (h__law_name : Cl P w K mg base 2 "_law_name" (spM K 3 [some 0, none, none] (c__law_name A))) (h__law_draw : Cl P w K mg base 1 "_law_draw" (spM K 2 [some 0, none] (c__law_draw A))) : FnOk P w K mg base L2.CX0 3 f fd ["_law_pool_here"] (spM K 1 [some 0] (c__law_words A)) :=
  fnO Fn sc__law_words (by decide) (kd_of (by decide)) (fun cdv A0 outer s H E Γ hr hK hps hn L => by
    have np : ∀ i, i ∉ ([some 0] : List (Option Nat)).filterMap id → i ∉ Γ.ps := fun i h => hps ▸ h
    have npl : ∀ vs : List Nat, (∀ v ∈ vs, v ∉ ([some 0] : List (Option Nat)).filterMap id) → ∀ v ∈ vs, v ∉ Γ.ps := fun vs h => hps ▸ h
    have nn : ∀ i, i < (N__law_words).length → i < Γ.n := fun i h => hn ▸ h
    exact (qss_cons (qs_set (i := 1) sc__law_words.nd rfl (by first | exact .inl rfl | exact .inr rfl) (np 1 (by decide)) (qe_fz (qo_call h__law_name hr (by decide) (by rfl) (qag_io (i := 0) rfl (by first | exact .inl rfl | exact .inr (.inl rfl) | exact .inr (.inr rfl)) (qag_ex qe_int (qag_ex qe_int qag_nil))))))
      (qss_cons (qs_set (i := 2) sc__law_words.nd rfl (by first | exact .inl rfl | exact .inr rfl) (np 2 (by decide)) (qe_add (PM.r (qv (i := 1) rfl (by first | exact .inl rfl | exact .inr (.inl rfl) | exact .inr (.inr rfl)))) (PM.r (qe_item (PM.r qe_str) (PM.r (qe_fz (qo_call h__law_draw hr (by decide) (by rfl) (qag_io (i := 0) rfl (by first | exact .inl rfl | exact .inr (.inl rfl) | exact .inr (.inr rfl)) (qag_ex qe_int qag_nil)))))))))
      (qss_cons (qs_set (i := 3) sc__law_words.nd rfl (by first | exact .inl rfl | exact .inr rfl) (np 3 (by decide)) (qe_fz (qo_call h__law_name hr (by decide) (by rfl) (qag_io (i := 0) rfl (by first | exact .inl rfl | exact .inr (.inl rfl) | exact .inr (.inr rfl)) (qag_ex qe_int (qag_ex qe_int qag_nil))))))
      (qss_one (qs_ret (qe_lst (qa_cons (qv (i := 1) rfl (by first | exact .inl rfl | exact .inr (.inl rfl) | exact .inr (.inr rfl))) (qa_cons (qv (i := 2) rfl (by first | exact .inl rfl | exact .inr (.inl rfl) | exact .inr (.inr rfl))) (qa_cons (qe_if (qt_in (PM.r (qv (i := 3) rfl (by first | exact .inl rfl | exact .inr (.inl rfl) | exact .inr (.inr rfl)))) (PM.r (qe_lst (qa_cons (qv (i := 1) rfl (by first | exact .inl rfl | exact .inr (.inl rfl) | exact .inr (.inr rfl))) (qa_cons (qv (i := 2) rfl (by first | exact .inl rfl | exact .inr (.inl rfl) | exact .inr (.inr rfl))) qa_nil))))) (qe_add (PM.r (qv (i := 1) rfl (by first | exact .inl rfl | exact .inr (.inl rfl) | exact .inr (.inr rfl)))) (PM.r qe_str)) (qv (i := 3) rfl (by first | exact .inl rfl | exact .inr (.inl rfl) | exact .inr (.inr rfl)))) qa_nil))))))))))
abbrev s__law_moves : Stmt := top 31
abbrev N__law_moves : List Str := ["_law_pool_here", "_law_stages", "_law_words_here", "_law_both", "_law_found", "_law_turn", "_law_way", "_law_move", "_law_word"]
theorem sc__law_moves : FnScope N__law_moves ["_law_pool_here", "_law_stages", "_law_words_here"] (defScope s__law_moves) := ⟨rfl, rfl, rfl, by decide +kernel, rfl, by decide +kernel, by decide +kernel⟩
noncomputable def m__law_moves (A : Ca) : M Fl :=
  (mSeq (mIf (fun δ => mBl ((mOp eqD (.ex (mFz (mCall (c__law_draw A) [(.io 0), (.ex (mC (.int 3)))]))) (.ex (mC (.int 0)))) δ)) (mSeq (mAsg 3 (mOp addD (.ex (mLcD (mLc (mIter (mVar 2)) [8] (tgN 8) mYes (mTup [(mC (.int 0)), (mVar 8), (mC (.str "along")), (mC (.int 0))])))) (.ex (mLcD (mLc (mIter (mVar 2)) [8] (tgN 8) mYes (mTup [(mC (.int 0)), (mVar 8), (mC (.str "against")), (mC (.int 0))]))))))
  (mRet (mSl (.ex (mVar 3)) none (some (mOp addD (.ex (mC (.int 3))) (.ex (mFz (mCall (c__law_draw A) [(.io 0), (.ex (mC (.int 4)))])))))))) mNx)
  (mSeq (mAsgO 4 (mLstN []))
  (mSeq (mFor (mRng1 (mOp addD (.ex (mC (.int 1))) (.ex (mFz (mCall (c__law_draw A) [(.io 0), (.ex (mC (.int 6)))]))))) (tgN 5) (mSeq (mAsg 6 (mOp ixD (.ex (mLst [(mC (.str "along")), (mC (.str "along")), (mC (.str "against"))])) (.ex (mFz (mCall (c__law_draw A) [(.io 0), (.ex (mC (.int 3)))])))))
  (mSeq (mAsg 7 (mTup [(mFz (mCall (c__law_draw A) [(.io 0), (.ex (mVar 1))])), (mOp ixD (.ex (mVar 2)) (.ex (mFz (mCall (c__law_draw A) [(.io 0), (.ex (mCB lenD (.ex (mVar 2))))])))), (mVar 6), (mFz (mCall (c__law_draw A) [(.io 0), (.ex (mVar 1))]))]))
  (mIf (fun δ => mBl ((mOp notInD (.ex (mVar 7)) (.pk 4)) δ)) (mDrop (mApp 4 (mVar 7))) mNx))))
  (mRet (mVar 4)))))
noncomputable def c__law_moves (A : Ca) : List Sv → Res Sv := fnOf 9 3 1 (m__law_moves A)
theorem ok__law_moves {P : Program} {w : World} {K : PySem.W.Frag} {mg : Str → Option Value} {base : Heap} {A : Ca} {f : Addr} {fd : FuncData} (Fn : Fun K "_law_moves" "_law_moves" s__law_moves f fd) (T : Txt K mg A) (h__law_draw : Cl P w K mg base 1 "_law_draw" (spM K 2 [some 0, none] (c__law_draw A))) : FnOk P w K mg base L2.CX0 2 f fd ["_law_pool_here", "_law_stages", "_law_words_here"] (spM K 3 [some 0, none, none] (c__law_moves A)) :=
  fnO Fn sc__law_moves (by decide) (kd_of (by decide)) (fun cdv A0 outer s H E Γ hr hK hps hn L => by
    have np : ∀ i, i ∉ ([some 0, none, none] : List (Option Nat)).filterMap id → i ∉ Γ.ps := fun i h => hps ▸ h
    have npl : ∀ vs : List Nat, (∀ v ∈ vs, v ∉ ([some 0, none, none] : List (Option Nat)).filterMap id) → ∀ v ∈ vs, v ∉ Γ.ps := fun vs h => hps ▸ h
    have nn : ∀ i, i < (N__law_moves).length → i < Γ.n := fun i h => hn ▸ h
    exact (qss_cons (qs_if (qt_eq (PM.r (qe_fz (qo_call h__law_draw hr (by decide) (by rfl) (qag_io (i := 0) rfl (by first | exact .inl rfl | exact .inr (.inl rfl) | exact .inr (.inr rfl)) (qag_ex qe_int qag_nil))))) (PM.r qe_int)) (qss_cons (qs_set (i := 3) sc__law_moves.nd rfl (by first | exact .inl rfl | exact .inr rfl) (np 3 (by decide)) (qe_add (PM.r (qe_lc (qo_lc (own := [("_law_word", 8)]) sc__law_moves.nd (qi_seq (qv (i := 2) rfl (by first | exact .inl rfl | exact .inr (.inl rfl) | exact .inr (.inr rfl)))) (blkOk_by (own := [("_law_word", 8)]) (N := N__law_moves) (sc := defScope s__law_moves) (by decide +kernel)) (npl _ (by decide)) (by decide) (fun _ _ _ _ _ => (qg_name (i := 8) sc__law_moves.nd rfl (by first | exact .inl rfl | exact .inr rfl) (np 8 (by decide)))) (fun _ _ _ _ _ => (qe_tup (qa_cons qe_int (qa_cons (qv (i := 8) rfl (by first | exact .inl rfl | exact .inr (.inl rfl) | exact .inr (.inr rfl))) (qa_cons qe_str (qa_cons qe_int qa_nil))))))))) (PM.r (qe_lc (qo_lc (own := [("_law_word", 8)]) sc__law_moves.nd (qi_seq (qv (i := 2) rfl (by first | exact .inl rfl | exact .inr (.inl rfl) | exact .inr (.inr rfl)))) (blkOk_by (own := [("_law_word", 8)]) (N := N__law_moves) (sc := defScope s__law_moves) (by decide +kernel)) (npl _ (by decide)) (by decide) (fun _ _ _ _ _ => (qg_name (i := 8) sc__law_moves.nd rfl (by first | exact .inl rfl | exact .inr rfl) (np 8 (by decide)))) (fun _ _ _ _ _ => (qe_tup (qa_cons qe_int (qa_cons (qv (i := 8) rfl (by first | exact .inl rfl | exact .inr (.inl rfl) | exact .inr (.inr rfl))) (qa_cons qe_str (qa_cons qe_int qa_nil)))))))))))
      (qss_one (qs_ret (qe_sl (PM.r (qv (i := 3) rfl (by first | exact .inl rfl | exact .inr (.inl rfl) | exact .inr (.inr rfl)))) qp_none (qp_some (qe_add (PM.r qe_int) (PM.r (qe_fz (qo_call h__law_draw hr (by decide) (by rfl) (qag_io (i := 0) rfl (by first | exact .inl rfl | exact .inr (.inl rfl) | exact .inr (.inr rfl)) (qag_ex qe_int qag_nil))))))))))) qss_nil)
      (qss_cons (qs_setO (i := 4) sc__law_moves.nd rfl (by first | exact .inl rfl | exact .inr rfl) (np 4 (by decide)) (qo_lst qa_nil))
      (qss_cons (qs_for PassesOwn.never (qi_rng1 (by rfl) T.b_range (qe_add (PM.r qe_int) (PM.r (qe_fz (qo_call h__law_draw hr (by decide) (by rfl) (qag_io (i := 0) rfl (by first | exact .inl rfl | exact .inr (.inl rfl) | exact .inr (.inr rfl)) (qag_ex qe_int qag_nil))))))) (qg_name (i := 5) sc__law_moves.nd rfl (by first | exact .inl rfl | exact .inr rfl) (np 5 (by decide))) (qss_cons (qs_set (i := 6) sc__law_moves.nd rfl (by first | exact .inl rfl | exact .inr rfl) (np 6 (by decide)) (qe_item (PM.r (qe_lst (qa_cons qe_str (qa_cons qe_str (qa_cons qe_str qa_nil))))) (PM.r (qe_fz (qo_call h__law_draw hr (by decide) (by rfl) (qag_io (i := 0) rfl (by first | exact .inl rfl | exact .inr (.inl rfl) | exact .inr (.inr rfl)) (qag_ex qe_int qag_nil)))))))
      (qss_cons (qs_set (i := 7) sc__law_moves.nd rfl (by first | exact .inl rfl | exact .inr rfl) (np 7 (by decide)) (qe_tup (qa_cons (qe_fz (qo_call h__law_draw hr (by decide) (by rfl) (qag_io (i := 0) rfl (by first | exact .inl rfl | exact .inr (.inl rfl) | exact .inr (.inr rfl)) (qag_ex (qv (i := 1) rfl (by first | exact .inl rfl | exact .inr (.inl rfl) | exact .inr (.inr rfl))) qag_nil)))) (qa_cons (qe_item (PM.r (qv (i := 2) rfl (by first | exact .inl rfl | exact .inr (.inl rfl) | exact .inr (.inr rfl)))) (PM.r (qe_fz (qo_call h__law_draw hr (by decide) (by rfl) (qag_io (i := 0) rfl (by first | exact .inl rfl | exact .inr (.inl rfl) | exact .inr (.inr rfl)) (qag_ex (qb_len (by rfl) T.b_len (PM.r (qv (i := 2) rfl (by first | exact .inl rfl | exact .inr (.inl rfl) | exact .inr (.inr rfl))))) qag_nil)))))) (qa_cons (qv (i := 6) rfl (by first | exact .inl rfl | exact .inr (.inl rfl) | exact .inr (.inr rfl))) (qa_cons (qe_fz (qo_call h__law_draw hr (by decide) (by rfl) (qag_io (i := 0) rfl (by first | exact .inl rfl | exact .inr (.inl rfl) | exact .inr (.inr rfl)) (qag_ex (qv (i := 1) rfl (by first | exact .inl rfl | exact .inr (.inl rfl) | exact .inr (.inr rfl))) qag_nil)))) qa_nil))))))
      (qss_one (qs_if (qt_notin (PM.r (qv (i := 7) rfl (by first | exact .inl rfl | exact .inr (.inl rfl) | exact .inr (.inr rfl)))) (qr_pk (i := 4) rfl (by first | exact .inl rfl | exact .inr (.inl rfl) | exact .inr (.inr rfl)))) (qss_one (qs_expr (qe_app (i := 4) rfl (by first | exact .inl rfl | exact .inr (.inl rfl) | exact .inr (.inr rfl)) (qv (i := 7) rfl (by first | exact .inl rfl | exact .inr (.inl rfl) | exact .inr (.inr rfl)))))) qss_nil)))))
      (qss_one (qs_ret (qv (i := 4) rfl (by first | exact .inl rfl | exact .inr (.inl rfl) | exact .inr (.inr rfl)))))))))
abbrev s__law_pages : Stmt := top 30
abbrev N__law_pages : List Str := ["_law_pool_here", "_law_many", "_law_wanted", "_law_left", "_law_found", "_law_turn"]
theorem sc__law_pages : FnScope N__law_pages ["_law_pool_here", "_law_many", "_law_wanted"] (defScope s__law_pages) := ⟨rfl, rfl, rfl, by decide +kernel, rfl, by decide +kernel, by decide +kernel⟩
noncomputable def m__law_pages (A : Ca) : M Fl :=
  (mSeq (mPar 3 4 (mLRngO (mVar 1)) (mLstN []))
  (mSeq (mFor (mRng1 (mVar 2)) (tgN 5) (mDrop (mApp 4 (mPop 3 (mFz (mCall (c__law_draw A) [(.io 0), (.ex (mCB lenD (.pk 3)))]))))))
  (mRet (mCB tupD (.pk 4)))))
noncomputable def c__law_pages (A : Ca) : List Sv → Res Sv := fnOf 6 3 1 (m__law_pages A)
theorem ok__law_pages {P : Program} {w : World} {K : PySem.W.Frag} {mg : Str → Option Value} {base : Heap} {A : Ca} {f : Addr} {fd : FuncData} (Fn : Fun K "_law_pages" "_law_pages" s__law_pages f fd) (T : Txt K mg A) (h__law_draw : Cl P w K mg base 1 "_law_draw" (spM K 2 [some 0, none] (c__law_draw A))) : FnOk P w K mg base L2.CX0 2 f fd ["_law_pool_here", "_law_many", "_law_wanted"] (spM K 3 [some 0, none, none] (c__law_pages A)) :=
  fnO Fn sc__law_pages (by decide) (kd_of (by decide)) (fun cdv A0 outer s H E Γ hr hK hps hn L => by
    have np : ∀ i, i ∉ ([some 0, none, none] : List (Option Nat)).filterMap id → i ∉ Γ.ps := fun i h => hps ▸ h
    have npl : ∀ vs : List Nat, (∀ v ∈ vs, v ∉ ([some 0, none, none] : List (Option Nat)).filterMap id) → ∀ v ∈ vs, v ∉ Γ.ps := fun vs h => hps ▸ h
    have nn : ∀ i, i < (N__law_pages).length → i < Γ.n := fun i h => hn ▸ h
    exact (qss_cons (qs_par (i := 3) (j := 4) sc__law_pages.nd rfl rfl (by decide) rfl rfl (np 3 (by decide)) (np 4 (by decide)) (nn 3 (by decide)) (qo_lrng (by rfl) T.b_list (by rfl) T.b_range (qv (i := 1) rfl (by first | exact .inl rfl | exact .inr (.inl rfl) | exact .inr (.inr rfl)))) (qo_lst qa_nil) (by rfl))
      (qss_cons (qs_for PassesOwn.never (qi_rng1 (by rfl) T.b_range (qv (i := 2) rfl (by first | exact .inl rfl | exact .inr (.inl rfl) | exact .inr (.inr rfl)))) (qg_name (i := 5) sc__law_pages.nd rfl (by first | exact .inl rfl | exact .inr rfl) (np 5 (by decide))) (qss_one (qs_expr (qe_app (i := 4) rfl (by first | exact .inl rfl | exact .inr (.inl rfl) | exact .inr (.inr rfl)) (qe_pop (i := 3) rfl (by first | exact .inl rfl | exact .inr (.inl rfl) | exact .inr (.inr rfl)) (qe_fz (qo_call h__law_draw hr (by decide) (by rfl) (qag_io (i := 0) rfl (by first | exact .inl rfl | exact .inr (.inl rfl) | exact .inr (.inr rfl)) (qag_ex (qb_len (by rfl) T.b_len (qr_pk (i := 3) rfl (by first | exact .inl rfl | exact .inr (.inl rfl) | exact .inr (.inr rfl)))) qag_nil)))))))))
      (qss_one (qs_ret (qb_tuple (by rfl) T.b_tuple (qr_pk (i := 4) rfl (by first | exact .inl rfl | exact .inr (.inl rfl) | exact .inr (.inr rfl)))))))))
abbrev s__law_turned : Stmt := top 36
abbrev N__law_turned : List Str := ["_law_pool_here", "_law_row", "_law_k"]
theorem sc__law_turned : FnScope N__law_turned ["_law_pool_here", "_law_row"] (defScope s__law_turned) := ⟨rfl, rfl, rfl, by decide +kernel, rfl, by decide +kernel, by decide +kernel⟩
noncomputable def m__law_turned (A : Ca) : M Fl :=
  (mRet (mLcD (mLc (mIter (mFz (mCall (c__law_pages A) [(.io 0), (.ex (mCB lenD (.ex (mVar 1)))), (.ex (mCB lenD (.ex (mVar 1))))]))) [2] (tgN 2) mYes (mOp ixD (.ex (mVar 1)) (.ex (mVar 2))))))
noncomputable def c__law_turned (A : Ca) : List Sv → Res Sv := fnOf 3 2 1 (m__law_turned A)
theorem ok__law_turned {P : Program} {w : World} {K : PySem.W.Frag} {mg : Str → Option Value} {base : Heap} {A : Ca} {f : Addr} {fd : FuncData} (Fn : Fun K "_law_turned" "_law_turned" s__law_turned f fd) (T : Txt K mg A) (h__law_pages : Cl P w K mg base 2 "_law_pages" (spM K 3 [some 0, none, none] (c__law_pages A))) : FnOk P w K mg base L2.CX0 3 f fd ["_law_pool_here", "_law_row"] (spM K 2 [some 0, none] (c__law_turned A)) :=
  fnO Fn sc__law_turned (by decide) (kd_of (by decide)) (fun cdv A0 outer s H E Γ hr hK hps hn L => by
    have np : ∀ i, i ∉ ([some 0, none] : List (Option Nat)).filterMap id → i ∉ Γ.ps := fun i h => hps ▸ h
    have npl : ∀ vs : List Nat, (∀ v ∈ vs, v ∉ ([some 0, none] : List (Option Nat)).filterMap id) → ∀ v ∈ vs, v ∉ Γ.ps := fun vs h => hps ▸ h
    have nn : ∀ i, i < (N__law_turned).length → i < Γ.n := fun i h => hn ▸ h
    exact (qss_one (qs_ret (qe_lc (qo_lc (own := [("_law_k", 2)]) sc__law_turned.nd (qi_seq (qe_fz (qo_call h__law_pages hr (by decide) (by rfl) (qag_io (i := 0) rfl (by first | exact .inl rfl | exact .inr (.inl rfl) | exact .inr (.inr rfl)) (qag_ex (qb_len (by rfl) T.b_len (PM.r (qv (i := 1) rfl (by first | exact .inl rfl | exact .inr (.inl rfl) | exact .inr (.inr rfl))))) (qag_ex (qb_len (by rfl) T.b_len (PM.r (qv (i := 1) rfl (by first | exact .inl rfl | exact .inr (.inl rfl) | exact .inr (.inr rfl))))) qag_nil)))))) (blkOk_by (own := [("_law_k", 2)]) (N := N__law_turned) (sc := defScope s__law_turned) (by decide +kernel)) (npl _ (by decide)) (by decide) (fun _ _ _ _ _ => (qg_name (i := 2) sc__law_turned.nd rfl (by first | exact .inl rfl | exact .inr rfl) (np 2 (by decide)))) (fun _ _ _ _ _ => (qe_item (PM.r (qv (i := 1) rfl (by first | exact .inl rfl | exact .inr (.inl rfl) | exact .inr (.inr rfl)))) (PM.r (qv (i := 2) rfl (by first | exact .inl rfl | exact .inr (.inl rfl) | exact .inr (.inr rfl)))))))))))
abbrev s_is_integer : Stmt := top 1
abbrev N_is_integer : List Str := ["value"]
theorem sc_is_integer : FnScope N_is_integer ["value"] (defScope s_is_integer) := ⟨rfl, rfl, rfl, by decide +kernel, rfl, by decide +kernel, by decide +kernel⟩
noncomputable def m_is_integer (A : Ca) : M Fl :=
  (mRet (mAndV (mOp (isiD (tb A) (csl A)) (.ex (mVar 0)) (.ex (mC (.raw (.ty "int"))))) (mNotV (mOp (isiD (tb A) (csl A)) (.ex (mVar 0)) (.ex (mC (.raw (.ty "bool"))))))))
noncomputable def c_is_integer (A : Ca) : List Sv → Res Sv := fnOf 1 1 0 (m_is_integer A)
theorem ok_is_integer {P : Program} {w : World} {K : PySem.W.Frag} {mg : Str → Option Value} {base : Heap} {A : Ca} {f : Addr} {fd : FuncData} (Fn : Fun K "is_integer" "is_integer" s_is_integer f fd) (T : Txt K mg A)  : FnOk P w K mg base L2.CX0 1 f fd ["value"] (spM K 1 [none] (c_is_integer A)) :=
  fnO Fn sc_is_integer (by decide) (kd_of (by decide)) (fun cdv A0 outer s H E Γ hr hK hps hn L => by
    have np : ∀ i, i ∉ ([none] : List (Option Nat)).filterMap id → i ∉ Γ.ps := fun i h => hps ▸ h
    have npl : ∀ vs : List Nat, (∀ v ∈ vs, v ∉ ([none] : List (Option Nat)).filterMap id) → ∀ v ∈ vs, v ∉ Γ.ps := fun vs h => hps ▸ h
    have nn : ∀ i, i < (N_is_integer).length → i < Γ.n := fun i h => hn ▸ h
    exact (qss_one (qs_ret (qe_and (qb_isi T.tb T.cs (by rfl) T.b_isinstance (PM.r (qv (i := 0) rfl (by first | exact .inl rfl | exact .inr (.inl rfl) | exact .inr (.inr rfl)))) (PM.r (qe_ty (T := "int") (by rfl) T.b_int (by decide +kernel)))) (qe_one (qe_not (qb_isi T.tb T.cs (by rfl) T.b_isinstance (PM.r (qv (i := 0) rfl (by first | exact .inl rfl | exact .inr (.inl rfl) | exact .inr (.inr rfl)))) (PM.r (qe_ty (T := "bool") (by rfl) T.b_bool (by decide +kernel))))))))))
abbrev s_is_number : Stmt := top 2
abbrev N_is_number : List Str := ["value", "least", "most"]
theorem sc_is_number : FnScope N_is_number ["value", "least", "most"] (defScope s_is_number) := ⟨rfl, rfl, rfl, by decide +kernel, rfl, by decide +kernel, by decide +kernel⟩
noncomputable def m_is_number (A : Ca) : M Fl :=
  (mRet (mAndV (mFz (mCall (c_is_integer A) [(.ex (mVar 0))])) (mChain leD leD (.ex (mVar 1)) (.ex (mVar 0)) (.ex (mVar 2)))))
noncomputable def c_is_number (A : Ca) : List Sv → Res Sv := fnOf 3 3 0 (m_is_number A)
theorem ok_is_number {P : Program} {w : World} {K : PySem.W.Frag} {mg : Str → Option Value} {base : Heap} {A : Ca} {f : Addr} {fd : FuncData} (Fn : Fun K "is_number" "is_number" s_is_number f fd) (T : Txt K mg A) (h_is_integer : Cl P w K mg base 1 "is_integer" (spM K 1 [none] (c_is_integer A))) : FnOk P w K mg base L2.CX0 2 f fd ["value", "least", "most"] (spM K 3 [none, none, none] (c_is_number A)) :=
  fnO Fn sc_is_number (by decide) (kd_of (by decide)) (fun cdv A0 outer s H E Γ hr hK hps hn L => by
    have np : ∀ i, i ∉ ([none, none, none] : List (Option Nat)).filterMap id → i ∉ Γ.ps := fun i h => hps ▸ h
    have npl : ∀ vs : List Nat, (∀ v ∈ vs, v ∉ ([none, none, none] : List (Option Nat)).filterMap id) → ∀ v ∈ vs, v ∉ Γ.ps := fun vs h => hps ▸ h
    have nn : ∀ i, i < (N_is_number).length → i < Γ.n := fun i h => hn ▸ h
    exact (qss_one (qs_ret (qe_and (qe_fz (qo_call h_is_integer hr (by decide) (by rfl) (qag_ex (qv (i := 0) rfl (by first | exact .inl rfl | exact .inr (.inl rfl) | exact .inr (.inr rfl))) qag_nil))) (qe_one (qe_le_le (PM.r (qv (i := 1) rfl (by first | exact .inl rfl | exact .inr (.inl rfl) | exact .inr (.inr rfl)))) (PM.r (qv (i := 0) rfl (by first | exact .inl rfl | exact .inr (.inl rfl) | exact .inr (.inr rfl)))) (PM.r (qv (i := 2) rfl (by first | exact .inl rfl | exact .inr (.inl rfl) | exact .inr (.inr rfl))))))))))
abbrev s_is_row : Stmt := top 15
abbrev N_is_row : List Str := ["value", "length"]
theorem sc_is_row : FnScope N_is_row ["value", "length"] (defScope s_is_row) := ⟨rfl, rfl, rfl, by decide +kernel, rfl, by decide +kernel, by decide +kernel⟩
noncomputable def m_is_row (A : Ca) : M Fl :=
  (mRet (mAndV (mOp (isiD (tb A) (csl A)) (.ex (mVar 0)) (.ex (mC (.raw (.ty "tuple"))))) (mOp eqD (.ex (mCB lenD (.ex (mVar 0)))) (.ex (mVar 1)))))
noncomputable def c_is_row (A : Ca) : List Sv → Res Sv := fnOf 2 2 0 (m_is_row A)
theorem ok_is_row {P : Program} {w : World} {K : PySem.W.Frag} {mg : Str → Option Value} {base : Heap} {A : Ca} {f : Addr} {fd : FuncData} (Fn : Fun K "is_row" "is_row" s_is_row f fd) (T : Txt K mg A)  : FnOk P w K mg base L2.CX0 1 f fd ["value", "length"] (spM K 2 [none, none] (c_is_row A)) :=
  fnO Fn sc_is_row (by decide) (kd_of (by decide)) (fun cdv A0 outer s H E Γ hr hK hps hn L => by
    have np : ∀ i, i ∉ ([none, none] : List (Option Nat)).filterMap id → i ∉ Γ.ps := fun i h => hps ▸ h
    have npl : ∀ vs : List Nat, (∀ v ∈ vs, v ∉ ([none, none] : List (Option Nat)).filterMap id) → ∀ v ∈ vs, v ∉ Γ.ps := fun vs h => hps ▸ h
    have nn : ∀ i, i < (N_is_row).length → i < Γ.n := fun i h => hn ▸ h
    exact (qss_one (qs_ret (qe_and (qb_isi T.tb T.cs (by rfl) T.b_isinstance (PM.r (qv (i := 0) rfl (by first | exact .inl rfl | exact .inr (.inl rfl) | exact .inr (.inr rfl)))) (PM.r (qe_ty (T := "tuple") (by rfl) T.b_tuple (by decide +kernel)))) (qe_one (qe_eq (PM.r (qb_len (by rfl) T.b_len (PM.r (qv (i := 0) rfl (by first | exact .inl rfl | exact .inr (.inl rfl) | exact .inr (.inr rfl)))))) (PM.r (qv (i := 1) rfl (by first | exact .inl rfl | exact .inr (.inl rfl) | exact .inr (.inr rfl))))))))))
abbrev s_is_name : Stmt := top 14
abbrev N_is_name : List Str := ["value", "sign"]
theorem sc_is_name : FnScope N_is_name ["value"] (defScope s_is_name) := ⟨rfl, rfl, rfl, by decide +kernel, rfl, by decide +kernel, by decide +kernel⟩
noncomputable def m_is_name (A : Ca) : M Fl :=
  (mSeq (mIf (mOr (mNot (fun δ => mBl ((mOp (isiD (tb A) (csl A)) (.ex (mVar 0)) (.ex (mC (.raw (.ty "str"))))) δ))) (mNot (fun δ => mBl ((mChain leD leD (.ex (mC (.int 1))) (.ex (mCB lenD (.ex (mVar 0)))) (.ex (mC (.int 8)))) δ)))) (mRet (mC (.bl false))) mNx)
  (mRet (mAndV (mOp inD (.ex (mOp ixD (.ex (mVar 0)) (.ex (mC (.int 0))))) (.ex (mC (.str "abcdefghijklmnopqrstuvwxyz")))) (mCB allD (.ex (mLcD (mLc (mIter (mVar 0)) [1] (tgN 1) mYes (mOp inD (.ex (mVar 1)) (.ex (mC (.str "abcdefghijklmnopqrstuvwxyz0123456789")))))))))))
noncomputable def c_is_name (A : Ca) : List Sv → Res Sv := fnOf 2 1 0 (m_is_name A)
theorem ok_is_name {P : Program} {w : World} {K : PySem.W.Frag} {mg : Str → Option Value} {base : Heap} {A : Ca} {f : Addr} {fd : FuncData} (Fn : Fun K "is_name" "is_name" s_is_name f fd) (T : Txt K mg A)  : FnOk P w K mg base L2.CX0 1 f fd ["value"] (spM K 1 [none] (c_is_name A)) :=
  fnO Fn sc_is_name (by decide) (kd_of (by decide)) (fun cdv A0 outer s H E Γ hr hK hps hn L => by
    have np : ∀ i, i ∉ ([none] : List (Option Nat)).filterMap id → i ∉ Γ.ps := fun i h => hps ▸ h
    have npl : ∀ vs : List Nat, (∀ v ∈ vs, v ∉ ([none] : List (Option Nat)).filterMap id) → ∀ v ∈ vs, v ∉ Γ.ps := fun vs h => hps ▸ h
    have nn : ∀ i, i < (N_is_name).length → i < Γ.n := fun i h => hn ▸ h
    exact (qss_cons (qs_if (PBw.pt (qw_or (qt_not (qt_val (qb_isi T.tb T.cs (by rfl) T.b_isinstance (PM.r (qv (i := 0) rfl (by first | exact .inl rfl | exact .inr (.inl rfl) | exact .inr (.inr rfl)))) (PM.r (qe_ty (T := "str") (by rfl) T.b_str (by decide +kernel)))))) (qw_or1 (qt_not (qt_le_le (PM.r qe_int) (PM.r (qb_len (by rfl) T.b_len (PM.r (qv (i := 0) rfl (by first | exact .inl rfl | exact .inr (.inl rfl) | exact .inr (.inr rfl)))))) (PM.r (qe_gc (by rfl) T.c_LONGEST (fun _ => .int _)))))))) (qss_one (qs_ret qe_bl)) qss_nil)
      (qss_one (qs_ret (qe_and (qe_in (PM.r (qe_item (PM.r (qv (i := 0) rfl (by first | exact .inl rfl | exact .inr (.inl rfl) | exact .inr (.inr rfl)))) (PM.r qe_int))) (PM.r (qe_gc (by rfl) T.c_LETTERS (fun _ => .str _)))) (qe_one (qb_all (by rfl) T.b_all (PM.r (qe_lc (qo_lc (own := [("sign", 1)]) sc_is_name.nd (qi_seq (qv (i := 0) rfl (by first | exact .inl rfl | exact .inr (.inl rfl) | exact .inr (.inr rfl)))) (blkOk_by (own := [("sign", 1)]) (N := N_is_name) (sc := defScope s_is_name) (by decide +kernel)) (npl _ (by decide)) (by decide) (fun _ _ _ _ _ => (qg_name (i := 1) sc_is_name.nd rfl (by first | exact .inl rfl | exact .inr rfl) (np 1 (by decide)))) (fun _ _ _ _ _ => (qe_in (PM.r (qv (i := 1) rfl (by first | exact .inl rfl | exact .inr (.inl rfl) | exact .inr (.inr rfl)))) (PM.r (qe_gc (by rfl) T.c_SIGNS (fun _ => .str _)))))))))))))))
abbrev s_is_step : Stmt := top 19
abbrev N_is_step : List Str := ["states", "value"]
theorem sc_is_step : FnScope N_is_step ["states", "value"] (defScope s_is_step) := ⟨rfl, rfl, rfl, by decide +kernel, rfl, by decide +kernel, by decide +kernel⟩
noncomputable def m_is_step (A : Ca) : M Fl :=
  (mSeq (mIf (mOr (mNot (fun δ => mBl ((mFz (mCall (c_is_row A) [(.ex (mVar 1)), (.ex (mC (.int 4)))])) δ))) (mOr (mNot (fun δ => mBl ((mFz (mCall (c_is_name A) [(.ex (mOp ixD (.ex (mVar 1)) (.ex (mC (.int 1)))))])) δ))) (mNot (fun δ => mBl ((mOp (isiD (tb A) (csl A)) (.ex (mOp ixD (.ex (mVar 1)) (.ex (mC (.int 2))))) (.ex (mC (.raw (.ty "str"))))) δ))))) (mRet (mC (.bl false))) mNx)
  (mSeq (mIf (mOr (mNot (fun δ => mBl ((mFz (mCall (c_is_number A) [(.ex (mOp ixD (.ex (mVar 1)) (.ex (mC (.int 0))))), (.ex (mC (.int 0))), (.ex (mOp subD (.ex (mVar 0)) (.ex (mC (.int 1)))))])) δ))) (mNot (fun δ => mBl ((mFz (mCall (c_is_number A) [(.ex (mOp ixD (.ex (mVar 1)) (.ex (mC (.int 3))))), (.ex (mC (.int 0))), (.ex (mOp subD (.ex (mVar 0)) (.ex (mC (.int 1)))))])) δ)))) (mRet (mC (.bl false))) mNx)
  (mRet (mOp inD (.ex (mOp ixD (.ex (mVar 1)) (.ex (mC (.int 2))))) (.ex (mTup [(mC (.str "along")), (mC (.str "against"))]))))))
noncomputable def c_is_step (A : Ca) : List Sv → Res Sv := fnOf 2 2 0 (m_is_step A)
theorem ok_is_step {P : Program} {w : World} {K : PySem.W.Frag} {mg : Str → Option Value} {base : Heap} {A : Ca} {f : Addr} {fd : FuncData} (Fn : Fun K "is_step" "is_step" s_is_step f fd) (T : Txt K mg A) (h_is_name : Cl P w K mg base 1 "is_name" (spM K 1 [none] (c_is_name A))) (h_is_row : Cl P w K mg base 1 "is_row" (spM K 2 [none, none] (c_is_row A))) (h_is_number : Cl P w K mg base 2 "is_number" (spM K 3 [none, none, none] (c_is_number A))) : FnOk P w K mg base L2.CX0 3 f fd ["states", "value"] (spM K 2 [none, none] (c_is_step A)) :=
  fnO Fn sc_is_step (by decide) (kd_of (by decide)) (fun cdv A0 outer s H E Γ hr hK hps hn L => by
    have np : ∀ i, i ∉ ([none, none] : List (Option Nat)).filterMap id → i ∉ Γ.ps := fun i h => hps ▸ h
    have npl : ∀ vs : List Nat, (∀ v ∈ vs, v ∉ ([none, none] : List (Option Nat)).filterMap id) → ∀ v ∈ vs, v ∉ Γ.ps := fun vs h => hps ▸ h
    have nn : ∀ i, i < (N_is_step).length → i < Γ.n := fun i h => hn ▸ h
    exact (qss_cons (qs_if (PBw.pt (qw_or (qt_not (qt_val (qe_fz (qo_call h_is_row hr (by decide) (by rfl) (qag_ex (qv (i := 1) rfl (by first | exact .inl rfl | exact .inr (.inl rfl) | exact .inr (.inr rfl))) (qag_ex qe_int qag_nil)))))) (qw_or (qt_not (qt_val (qe_fz (qo_call h_is_name hr (by decide) (by rfl) (qag_ex (qe_item (PM.r (qv (i := 1) rfl (by first | exact .inl rfl | exact .inr (.inl rfl) | exact .inr (.inr rfl)))) (PM.r qe_int)) qag_nil))))) (qw_or1 (qt_not (qt_val (qb_isi T.tb T.cs (by rfl) T.b_isinstance (PM.r (qe_item (PM.r (qv (i := 1) rfl (by first | exact .inl rfl | exact .inr (.inl rfl) | exact .inr (.inr rfl)))) (PM.r qe_int))) (PM.r (qe_ty (T := "str") (by rfl) T.b_str (by decide +kernel)))))))))) (qss_one (qs_ret qe_bl)) qss_nil)
      (qss_cons (qs_if (PBw.pt (qw_or (qt_not (qt_val (qe_fz (qo_call h_is_number hr (by decide) (by rfl) (qag_ex (qe_item (PM.r (qv (i := 1) rfl (by first | exact .inl rfl | exact .inr (.inl rfl) | exact .inr (.inr rfl)))) (PM.r qe_int)) (qag_ex qe_int (qag_ex (qe_sub (PM.r (qv (i := 0) rfl (by first | exact .inl rfl | exact .inr (.inl rfl) | exact .inr (.inr rfl)))) (PM.r qe_int)) qag_nil))))))) (qw_or1 (qt_not (qt_val (qe_fz (qo_call h_is_number hr (by decide) (by rfl) (qag_ex (qe_item (PM.r (qv (i := 1) rfl (by first | exact .inl rfl | exact .inr (.inl rfl) | exact .inr (.inr rfl)))) (PM.r qe_int)) (qag_ex qe_int (qag_ex (qe_sub (PM.r (qv (i := 0) rfl (by first | exact .inl rfl | exact .inr (.inl rfl) | exact .inr (.inr rfl)))) (PM.r qe_int)) qag_nil)))))))))) (qss_one (qs_ret qe_bl)) qss_nil)
      (qss_one (qs_ret (qe_in (PM.r (qe_item (PM.r (qv (i := 1) rfl (by first | exact .inl rfl | exact .inr (.inl rfl) | exact .inr (.inr rfl)))) (PM.r qe_int))) (PM.r (qe_tup (qa_cons (qe_gc (by rfl) T.c_ALONG (fun _ => .str _)) (qa_cons (qe_gc (by rfl) T.c_AGAINST (fun _ => .str _)) qa_nil))))))))))
abbrev s_check_steps : Stmt := top 20
abbrev N_check_steps : List Str := ["states", "value", "earlier", "index", "step"]
theorem sc_check_steps : FnScope N_check_steps ["states", "value"] (defScope s_check_steps) := ⟨rfl, rfl, rfl, by decide +kernel, rfl, by decide +kernel, by decide +kernel⟩
noncomputable def m_check_steps (A : Ca) : M Fl :=
  (mSeq (mIf (fun δ => mBl ((mOp gtD (.ex (mCB lenD (.ex (mVar 1)))) (.ex (mC (.int 12)))) δ)) mBad mNx)
  (mSeq (mAsgO 2 (mLstN []))
  (mFor (mEnum (mVar 1)) (tgT 2 (tgCons (tgN 3) (tgCons (tgN 4) tgNil))) (mSeq (mIf (mOr (mNot (fun δ => mBl ((mFz (mCall (c_is_step A) [(.ex (mVar 0)), (.ex (mVar 4))])) δ))) (fun δ => mBl ((mOp inD (.ex (mVar 4)) (.pk 2)) δ))) mBad mNx)
  (mDrop (mApp 2 (mVar 4)))))))
noncomputable def c_check_steps (A : Ca) : List Sv → Res Sv := fnOf 5 2 0 (m_check_steps A)
theorem ok_check_steps {P : Program} {w : World} {K : PySem.W.Frag} {mg : Str → Option Value} {base : Heap} {A : Ca} {f : Addr} {fd : FuncData} (Fn : Fun K "check_steps" "check_steps" s_check_steps f fd) (T : Txt K mg A) (h_is_step : Cl P w K mg base 3 "is_step" (spM K 2 [none, none] (c_is_step A))) : FnOk P w K mg base L2.CX0 4 f fd ["states", "value"] (spM K 2 [none, none] (c_check_steps A)) :=
  fnO Fn sc_check_steps (by decide) (kd_of (by decide)) (fun cdv A0 outer s H E Γ hr hK hps hn L => by
    have np : ∀ i, i ∉ ([none, none] : List (Option Nat)).filterMap id → i ∉ Γ.ps := fun i h => hps ▸ h
    have npl : ∀ vs : List Nat, (∀ v ∈ vs, v ∉ ([none, none] : List (Option Nat)).filterMap id) → ∀ v ∈ vs, v ∉ Γ.ps := fun vs h => hps ▸ h
    have nn : ∀ i, i < (N_check_steps).length → i < Γ.n := fun i h => hn ▸ h
    exact (qss_cons (qs_if (qt_gt (PM.r (qb_len (by rfl) T.b_len (PM.r (qv (i := 1) rfl (by first | exact .inl rfl | exact .inr (.inl rfl) | exact .inr (.inr rfl)))))) (PM.r (qe_gc (by rfl) T.c_MOST_STEPS (fun _ => .int _)))) (qss_one qs_never) qss_nil)
      (qss_cons (qs_setO (i := 2) sc_check_steps.nd rfl (by first | exact .inl rfl | exact .inr rfl) (np 2 (by decide)) (qo_lst qa_nil))
      (qss_one (qs_for PassesOwn.never (qi_enum (by rfl) T.b_enumerate (qv (i := 1) rfl (by first | exact .inl rfl | exact .inr (.inl rfl) | exact .inr (.inr rfl)))) (qg_tup (n := 2) (qg_cons (qg_name (i := 3) sc_check_steps.nd rfl (by first | exact .inl rfl | exact .inr rfl) (np 3 (by decide))) (qg_cons (qg_name (i := 4) sc_check_steps.nd rfl (by first | exact .inl rfl | exact .inr rfl) (np 4 (by decide))) qg_nil))) (qss_cons (qs_if (PBw.pt (qw_or (qt_not (qt_val (qe_fz (qo_call h_is_step hr (by decide) (by rfl) (qag_ex (qv (i := 0) rfl (by first | exact .inl rfl | exact .inr (.inl rfl) | exact .inr (.inr rfl))) (qag_ex (qv (i := 4) rfl (by first | exact .inl rfl | exact .inr (.inl rfl) | exact .inr (.inr rfl))) qag_nil)))))) (qw_or1 (qt_in (PM.r (qv (i := 4) rfl (by first | exact .inl rfl | exact .inr (.inl rfl) | exact .inr (.inr rfl)))) (qr_pk (i := 2) rfl (by first | exact .inl rfl | exact .inr (.inl rfl) | exact .inr (.inr rfl))))))) (qss_one qs_never) qss_nil)
      (qss_one (qs_expr (qe_app (i := 2) rfl (by first | exact .inl rfl | exact .inr (.inl rfl) | exact .inr (.inr rfl)) (qv (i := 4) rfl (by first | exact .inl rfl | exact .inr (.inl rfl) | exact .inr (.inr rfl))))))))))))
abbrev s_Walk___init__ : Stmt := inClass (top 23) 0
abbrev N_Walk___init__ : List Str := ["self", "states", "steps"]
theorem sc_Walk___init__ : FnScope N_Walk___init__ ["self", "states", "steps"] (defScope s_Walk___init__) := ⟨rfl, rfl, rfl, by decide +kernel, rfl, by decide +kernel, by decide +kernel⟩
noncomputable def m_Walk___init__ (A : Ca) : M Fl :=
  (mSeq (mIf (mNot (fun δ => mBl ((mFz (mCall (c_is_number A) [(.ex (mVar 1)), (.ex (mC (.int 1))), (.ex (mC (.int 3)))])) δ))) mBad mNx)
  (mSeq (mDrop (mFz (mCall (c_check_steps A) [(.ex (mVar 1)), (.ex (mVar 2))])))
  (mSeq (mFldSet [A.Walk] 0 "states" (mVar 1))
  (mFldSet [A.Walk] 0 "steps" (mCB tupD (.ex (mCB sortA (.ex (mVar 2)))))))))
noncomputable def c_Walk___init__ (A : Ca) : List Sv → Res Sv := fnOf 3 3 1 (m_Walk___init__ A)
theorem ok_Walk___init__ {P : Program} {w : World} {K : PySem.W.Frag} {mg : Str → Option Value} {base : Heap} {A : Ca} {f : Addr} {fd : FuncData} (Fn : Fun K "__init__" "Walk.__init__" s_Walk___init__ f fd) (T : Txt K mg A) (h_is_number : Cl P w K mg base 2 "is_number" (spM K 3 [none, none, none] (c_is_number A))) (h_check_steps : Cl P w K mg base 4 "check_steps" (spM K 2 [none, none] (c_check_steps A))) : StarOk P w K mg base L2.CX0 5 f fd ["self", "states"] "steps" (spM K 3 [some 0, none, none] (c_Walk___init__ A)) :=
  fnS (ps := ["self", "states"]) (pv := "steps") Fn sc_Walk___init__ rfl (by decide) (kd_of (by decide)) (fun cdv A0 outer s H E Γ hr hK hps hn L => by
    have np : ∀ i, i ∉ ([some 0, none, none] : List (Option Nat)).filterMap id → i ∉ Γ.ps := fun i h => hps ▸ h
    have npl : ∀ vs : List Nat, (∀ v ∈ vs, v ∉ ([some 0, none, none] : List (Option Nat)).filterMap id) → ∀ v ∈ vs, v ∉ Γ.ps := fun vs h => hps ▸ h
    have nn : ∀ i, i < (N_Walk___init__).length → i < Γ.n := fun i h => hn ▸ h
    exact (qss_cons (qs_if (qt_not (qt_val (qe_fz (qo_call h_is_number hr (by decide) (by rfl) (qag_ex (qv (i := 1) rfl (by first | exact .inl rfl | exact .inr (.inl rfl) | exact .inr (.inr rfl))) (qag_ex qe_int (qag_ex (qe_gc (by rfl) T.c_MOST_STATES (fun _ => .int _)) qag_nil))))))) (qss_one qs_never) qss_nil)
      (qss_cons (qs_expr (qe_fz (qo_call h_check_steps hr (by decide) (by rfl) (qag_ex (qv (i := 1) rfl (by first | exact .inl rfl | exact .inr (.inl rfl) | exact .inr (.inr rfl))) (qag_ex (qv (i := 2) rfl (by first | exact .inl rfl | exact .inr (.inl rfl) | exact .inr (.inr rfl))) qag_nil)))))
      (qss_cons (qs_fld (i := 0) (hK ▸ T.f_states) rfl (by first | exact .inl rfl | exact .inr (.inl rfl) | exact .inr (.inr rfl)) (qv (i := 1) rfl (by first | exact .inl rfl | exact .inr (.inl rfl) | exact .inr (.inr rfl))))
      (qss_one (qs_fld (i := 0) (hK ▸ T.f_steps) rfl (by first | exact .inl rfl | exact .inr (.inl rfl) | exact .inr (.inr rfl)) (qb_tuple (by rfl) T.b_tuple (PM.r (qb_sortA (by rfl) T.b_sorted (PM.r (qv (i := 2) rfl (by first | exact .inl rfl | exact .inr (.inl rfl) | exact .inr (.inr rfl)))))))))))))
abbrev s__law_walk : Stmt := top 32
abbrev N__law_walk : List Str := ["_law_stages", "_law_s"]
theorem sc__law_walk : FnScope N__law_walk ["_law_stages", "_law_s"] (defScope s__law_walk) := ⟨rfl, rfl, rfl, by decide +kernel, rfl, by decide +kernel, by decide +kernel⟩
noncomputable def m__law_walk (A : Ca) : M Fl :=
  (mSeq (mIf (fun δ => mBl ((mOp ltD (.ex (mCB lenD (.ex (mVar 1)))) (.ex (mC (.int 2)))) δ)) (mRet (mIf (fun δ => mBl ((mOp eqD (.ex (mCB lenD (.ex (mVar 1)))) (.ex (mC (.int 1)))) δ)) (mUI A.Walk (c_Walk___init__ A) (arrS 1) (mCons (mVar 0) (mCons (mOp ixD (.ex (mVar 1)) (.ex (mC (.int 0)))) (mAll [])))) (mUI A.Walk (c_Walk___init__ A) (arrS 1) (mCons (mVar 0) (mAll []))))) mNx)
  (mSeq (mIf (fun δ => mBl ((mOp ltD (.ex (mCB lenD (.ex (mVar 1)))) (.ex (mC (.int 4)))) δ)) (mRet (mIf (fun δ => mBl ((mOp eqD (.ex (mCB lenD (.ex (mVar 1)))) (.ex (mC (.int 3)))) δ)) (mUI A.Walk (c_Walk___init__ A) (arrS 1) (mCons (mVar 0) (mCons (mOp ixD (.ex (mVar 1)) (.ex (mC (.int 0)))) (mCons (mOp ixD (.ex (mVar 1)) (.ex (mC (.int 1)))) (mCons (mOp ixD (.ex (mVar 1)) (.ex (mC (.int 2)))) (mAll [])))))) (mUI A.Walk (c_Walk___init__ A) (arrS 1) (mCons (mVar 0) (mCons (mOp ixD (.ex (mVar 1)) (.ex (mC (.int 0)))) (mCons (mOp ixD (.ex (mVar 1)) (.ex (mC (.int 1)))) (mAll []))))))) mNx)
  (mSeq (mIf (fun δ => mBl ((mOp eqD (.ex (mCB lenD (.ex (mVar 1)))) (.ex (mC (.int 4)))) δ)) (mRet (mUI A.Walk (c_Walk___init__ A) (arrS 1) (mCons (mVar 0) (mCons (mOp ixD (.ex (mVar 1)) (.ex (mC (.int 0)))) (mCons (mOp ixD (.ex (mVar 1)) (.ex (mC (.int 1)))) (mCons (mOp ixD (.ex (mVar 1)) (.ex (mC (.int 2)))) (mCons (mOp ixD (.ex (mVar 1)) (.ex (mC (.int 3)))) (mAll [])))))))) mNx)
  (mSeq (mIf (fun δ => mBl ((mOp eqD (.ex (mCB lenD (.ex (mVar 1)))) (.ex (mC (.int 5)))) δ)) (mRet (mUI A.Walk (c_Walk___init__ A) (arrS 1) (mCons (mVar 0) (mCons (mOp ixD (.ex (mVar 1)) (.ex (mC (.int 0)))) (mCons (mOp ixD (.ex (mVar 1)) (.ex (mC (.int 1)))) (mCons (mOp ixD (.ex (mVar 1)) (.ex (mC (.int 2)))) (mCons (mOp ixD (.ex (mVar 1)) (.ex (mC (.int 3)))) (mCons (mOp ixD (.ex (mVar 1)) (.ex (mC (.int 4)))) (mAll []))))))))) mNx)
  (mRet (mUI A.Walk (c_Walk___init__ A) (arrS 1) (mCons (mVar 0) (mCons (mOp ixD (.ex (mVar 1)) (.ex (mC (.int 0)))) (mCons (mOp ixD (.ex (mVar 1)) (.ex (mC (.int 1)))) (mCons (mOp ixD (.ex (mVar 1)) (.ex (mC (.int 2)))) (mCons (mOp ixD (.ex (mVar 1)) (.ex (mC (.int 3)))) (mCons (mOp ixD (.ex (mVar 1)) (.ex (mC (.int 4)))) (mCons (mOp ixD (.ex (mVar 1)) (.ex (mC (.int 5)))) (mAll []))))))))))))))
noncomputable def c__law_walk (A : Ca) : List Sv → Res Sv := fnOf 2 2 0 (m__law_walk A)
theorem ok__law_walk {P : Program} {w : World} {K : PySem.W.Frag} {mg : Str → Option Value} {base : Heap} {A : Ca} {f : Addr} {fd : FuncData} (Fn : Fun K "_law_walk" "_law_walk" s__law_walk f fd) (T : Txt K mg A) (u_Walk___init__ : ClUI P w K mg base 5 A.Walk "Walk" [] (arrS 1) (c_Walk___init__ A)) : FnOk P w K mg base L2.CX0 7 f fd ["_law_stages", "_law_s"] (spM K 2 [none, none] (c__law_walk A)) :=
  fnO Fn sc__law_walk (by decide) (kd_of (by decide)) (fun cdv A0 outer s H E Γ hr hK hps hn L => by
    have np : ∀ i, i ∉ ([none, none] : List (Option Nat)).filterMap id → i ∉ Γ.ps := fun i h => hps ▸ h
    have npl : ∀ vs : List Nat, (∀ v ∈ vs, v ∉ ([none, none] : List (Option Nat)).filterMap id) → ∀ v ∈ vs, v ∉ Γ.ps := fun vs h => hps ▸ h
    have nn : ∀ i, i < (N__law_walk).length → i < Γ.n := fun i h => hn ▸ h
    exact (qss_cons (qs_if (qt_lt (PM.r (qb_len (by rfl) T.b_len (PM.r (qv (i := 1) rfl (by first | exact .inl rfl | exact .inr (.inl rfl) | exact .inr (.inr rfl)))))) (PM.r qe_int)) (qss_one (qs_ret (qe_if (qt_eq (PM.r (qb_len (by rfl) T.b_len (PM.r (qv (i := 1) rfl (by first | exact .inl rfl | exact .inr (.inl rfl) | exact .inr (.inr rfl)))))) (PM.r qe_int)) (qe_UI u_Walk___init__ hr (by decide) (by rfl) (qx_pos (qd_cons (qv (i := 0) rfl (by first | exact .inl rfl | exact .inr (.inl rfl) | exact .inr (.inr rfl))) (qd_cons (qe_item (PM.r (qv (i := 1) rfl (by first | exact .inl rfl | exact .inr (.inl rfl) | exact .inr (.inr rfl)))) (PM.r qe_int)) qd_nil)))) (qe_UI u_Walk___init__ hr (by decide) (by rfl) (qx_pos (qd_cons (qv (i := 0) rfl (by first | exact .inl rfl | exact .inr (.inl rfl) | exact .inr (.inr rfl))) qd_nil)))))) qss_nil)
      (qss_cons (qs_if (qt_lt (PM.r (qb_len (by rfl) T.b_len (PM.r (qv (i := 1) rfl (by first | exact .inl rfl | exact .inr (.inl rfl) | exact .inr (.inr rfl)))))) (PM.r qe_int)) (qss_one (qs_ret (qe_if (qt_eq (PM.r (qb_len (by rfl) T.b_len (PM.r (qv (i := 1) rfl (by first | exact .inl rfl | exact .inr (.inl rfl) | exact .inr (.inr rfl)))))) (PM.r qe_int)) (qe_UI u_Walk___init__ hr (by decide) (by rfl) (qx_pos (qd_cons (qv (i := 0) rfl (by first | exact .inl rfl | exact .inr (.inl rfl) | exact .inr (.inr rfl))) (qd_cons (qe_item (PM.r (qv (i := 1) rfl (by first | exact .inl rfl | exact .inr (.inl rfl) | exact .inr (.inr rfl)))) (PM.r qe_int)) (qd_cons (qe_item (PM.r (qv (i := 1) rfl (by first | exact .inl rfl | exact .inr (.inl rfl) | exact .inr (.inr rfl)))) (PM.r qe_int)) (qd_cons (qe_item (PM.r (qv (i := 1) rfl (by first | exact .inl rfl | exact .inr (.inl rfl) | exact .inr (.inr rfl)))) (PM.r qe_int)) qd_nil)))))) (qe_UI u_Walk___init__ hr (by decide) (by rfl) (qx_pos (qd_cons (qv (i := 0) rfl (by first | exact .inl rfl | exact .inr (.inl rfl) | exact .inr (.inr rfl))) (qd_cons (qe_item (PM.r (qv (i := 1) rfl (by first | exact .inl rfl | exact .inr (.inl rfl) | exact .inr (.inr rfl)))) (PM.r qe_int)) (qd_cons (qe_item (PM.r (qv (i := 1) rfl (by first | exact .inl rfl | exact .inr (.inl rfl) | exact .inr (.inr rfl)))) (PM.r qe_int)) qd_nil)))))))) qss_nil)
      (qss_cons (qs_if (qt_eq (PM.r (qb_len (by rfl) T.b_len (PM.r (qv (i := 1) rfl (by first | exact .inl rfl | exact .inr (.inl rfl) | exact .inr (.inr rfl)))))) (PM.r qe_int)) (qss_one (qs_ret (qe_UI u_Walk___init__ hr (by decide) (by rfl) (qx_pos (qd_cons (qv (i := 0) rfl (by first | exact .inl rfl | exact .inr (.inl rfl) | exact .inr (.inr rfl))) (qd_cons (qe_item (PM.r (qv (i := 1) rfl (by first | exact .inl rfl | exact .inr (.inl rfl) | exact .inr (.inr rfl)))) (PM.r qe_int)) (qd_cons (qe_item (PM.r (qv (i := 1) rfl (by first | exact .inl rfl | exact .inr (.inl rfl) | exact .inr (.inr rfl)))) (PM.r qe_int)) (qd_cons (qe_item (PM.r (qv (i := 1) rfl (by first | exact .inl rfl | exact .inr (.inl rfl) | exact .inr (.inr rfl)))) (PM.r qe_int)) (qd_cons (qe_item (PM.r (qv (i := 1) rfl (by first | exact .inl rfl | exact .inr (.inl rfl) | exact .inr (.inr rfl)))) (PM.r qe_int)) qd_nil))))))))) qss_nil)
      (qss_cons (qs_if (qt_eq (PM.r (qb_len (by rfl) T.b_len (PM.r (qv (i := 1) rfl (by first | exact .inl rfl | exact .inr (.inl rfl) | exact .inr (.inr rfl)))))) (PM.r qe_int)) (qss_one (qs_ret (qe_UI u_Walk___init__ hr (by decide) (by rfl) (qx_pos (qd_cons (qv (i := 0) rfl (by first | exact .inl rfl | exact .inr (.inl rfl) | exact .inr (.inr rfl))) (qd_cons (qe_item (PM.r (qv (i := 1) rfl (by first | exact .inl rfl | exact .inr (.inl rfl) | exact .inr (.inr rfl)))) (PM.r qe_int)) (qd_cons (qe_item (PM.r (qv (i := 1) rfl (by first | exact .inl rfl | exact .inr (.inl rfl) | exact .inr (.inr rfl)))) (PM.r qe_int)) (qd_cons (qe_item (PM.r (qv (i := 1) rfl (by first | exact .inl rfl | exact .inr (.inl rfl) | exact .inr (.inr rfl)))) (PM.r qe_int)) (qd_cons (qe_item (PM.r (qv (i := 1) rfl (by first | exact .inl rfl | exact .inr (.inl rfl) | exact .inr (.inr rfl)))) (PM.r qe_int)) (qd_cons (qe_item (PM.r (qv (i := 1) rfl (by first | exact .inl rfl | exact .inr (.inl rfl) | exact .inr (.inr rfl)))) (PM.r qe_int)) qd_nil)))))))))) qss_nil)
      (qss_one (qs_ret (qe_UI u_Walk___init__ hr (by decide) (by rfl) (qx_pos (qd_cons (qv (i := 0) rfl (by first | exact .inl rfl | exact .inr (.inl rfl) | exact .inr (.inr rfl))) (qd_cons (qe_item (PM.r (qv (i := 1) rfl (by first | exact .inl rfl | exact .inr (.inl rfl) | exact .inr (.inr rfl)))) (PM.r qe_int)) (qd_cons (qe_item (PM.r (qv (i := 1) rfl (by first | exact .inl rfl | exact .inr (.inl rfl) | exact .inr (.inr rfl)))) (PM.r qe_int)) (qd_cons (qe_item (PM.r (qv (i := 1) rfl (by first | exact .inl rfl | exact .inr (.inl rfl) | exact .inr (.inr rfl)))) (PM.r qe_int)) (qd_cons (qe_item (PM.r (qv (i := 1) rfl (by first | exact .inl rfl | exact .inr (.inl rfl) | exact .inr (.inr rfl)))) (PM.r qe_int)) (qd_cons (qe_item (PM.r (qv (i := 1) rfl (by first | exact .inl rfl | exact .inr (.inl rfl) | exact .inr (.inr rfl)))) (PM.r qe_int)) (qd_cons (qe_item (PM.r (qv (i := 1) rfl (by first | exact .inl rfl | exact .inr (.inl rfl) | exact .inr (.inr rfl)))) (PM.r qe_int)) qd_nil))))))))))))))))
abbrev s__law_rule : Stmt := top 33
abbrev N__law_rule : List Str := ["_law_stages", "_law_s"]
theorem sc__law_rule : FnScope N__law_rule ["_law_stages", "_law_s"] (defScope s__law_rule) := ⟨rfl, rfl, rfl, by decide +kernel, rfl, by decide +kernel, by decide +kernel⟩
noncomputable def m__law_rule (A : Ca) : M Fl :=
  (mSeq (mIf (fun δ => mBl ((mOp ltD (.ex (mCB lenD (.ex (mVar 1)))) (.ex (mC (.int 12)))) δ)) (mRet (mFz (mCall (c__law_walk A) [(.ex (mVar 0)), (.ex (mVar 1))]))) mNx)
  (mRet (mUI A.Walk (c_Walk___init__ A) (arrS 1) (mCons (mVar 0) (mCons (mOp ixD (.ex (mVar 1)) (.ex (mC (.int 0)))) (mCons (mOp ixD (.ex (mVar 1)) (.ex (mC (.int 1)))) (mCons (mOp ixD (.ex (mVar 1)) (.ex (mC (.int 2)))) (mCons (mOp ixD (.ex (mVar 1)) (.ex (mC (.int 3)))) (mCons (mOp ixD (.ex (mVar 1)) (.ex (mC (.int 4)))) (mCons (mOp ixD (.ex (mVar 1)) (.ex (mC (.int 5)))) (mCons (mOp ixD (.ex (mVar 1)) (.ex (mC (.int 6)))) (mCons (mOp ixD (.ex (mVar 1)) (.ex (mC (.int 7)))) (mCons (mOp ixD (.ex (mVar 1)) (.ex (mC (.int 8)))) (mCons (mOp ixD (.ex (mVar 1)) (.ex (mC (.int 9)))) (mCons (mOp ixD (.ex (mVar 1)) (.ex (mC (.int 10)))) (mCons (mOp ixD (.ex (mVar 1)) (.ex (mC (.int 11)))) (mAll [])))))))))))))))))
noncomputable def c__law_rule (A : Ca) : List Sv → Res Sv := fnOf 2 2 0 (m__law_rule A)
theorem ok__law_rule {P : Program} {w : World} {K : PySem.W.Frag} {mg : Str → Option Value} {base : Heap} {A : Ca} {f : Addr} {fd : FuncData} (Fn : Fun K "_law_rule" "_law_rule" s__law_rule f fd) (T : Txt K mg A) (h__law_walk : Cl P w K mg base 7 "_law_walk" (spM K 2 [none, none] (c__law_walk A))) (u_Walk___init__ : ClUI P w K mg base 5 A.Walk "Walk" [] (arrS 1) (c_Walk___init__ A)) : FnOk P w K mg base L2.CX0 8 f fd ["_law_stages", "_law_s"] (spM K 2 [none, none] (c__law_rule A)) :=
  fnO Fn sc__law_rule (by decide) (kd_of (by decide)) (fun cdv A0 outer s H E Γ hr hK hps hn L => by
    have np : ∀ i, i ∉ ([none, none] : List (Option Nat)).filterMap id → i ∉ Γ.ps := fun i h => hps ▸ h
    have npl : ∀ vs : List Nat, (∀ v ∈ vs, v ∉ ([none, none] : List (Option Nat)).filterMap id) → ∀ v ∈ vs, v ∉ Γ.ps := fun vs h => hps ▸ h
    have nn : ∀ i, i < (N__law_rule).length → i < Γ.n := fun i h => hn ▸ h
    exact (qss_cons (qs_if (qt_lt (PM.r (qb_len (by rfl) T.b_len (PM.r (qv (i := 1) rfl (by first | exact .inl rfl | exact .inr (.inl rfl) | exact .inr (.inr rfl)))))) (PM.r qe_int)) (qss_one (qs_ret (qe_fz (qo_call h__law_walk hr (by decide) (by rfl) (qag_ex (qv (i := 0) rfl (by first | exact .inl rfl | exact .inr (.inl rfl) | exact .inr (.inr rfl))) (qag_ex (qv (i := 1) rfl (by first | exact .inl rfl | exact .inr (.inl rfl) | exact .inr (.inr rfl))) qag_nil)))))) qss_nil)
      (qss_one (qs_ret (qe_UI u_Walk___init__ hr (by decide) (by rfl) (qx_pos (qd_cons (qv (i := 0) rfl (by first | exact .inl rfl | exact .inr (.inl rfl) | exact .inr (.inr rfl))) (qd_cons (qe_item (PM.r (qv (i := 1) rfl (by first | exact .inl rfl | exact .inr (.inl rfl) | exact .inr (.inr rfl)))) (PM.r qe_int)) (qd_cons (qe_item (PM.r (qv (i := 1) rfl (by first | exact .inl rfl | exact .inr (.inl rfl) | exact .inr (.inr rfl)))) (PM.r qe_int)) (qd_cons (qe_item (PM.r (qv (i := 1) rfl (by first | exact .inl rfl | exact .inr (.inl rfl) | exact .inr (.inr rfl)))) (PM.r qe_int)) (qd_cons (qe_item (PM.r (qv (i := 1) rfl (by first | exact .inl rfl | exact .inr (.inl rfl) | exact .inr (.inr rfl)))) (PM.r qe_int)) (qd_cons (qe_item (PM.r (qv (i := 1) rfl (by first | exact .inl rfl | exact .inr (.inl rfl) | exact .inr (.inr rfl)))) (PM.r qe_int)) (qd_cons (qe_item (PM.r (qv (i := 1) rfl (by first | exact .inl rfl | exact .inr (.inl rfl) | exact .inr (.inr rfl)))) (PM.r qe_int)) (qd_cons (qe_item (PM.r (qv (i := 1) rfl (by first | exact .inl rfl | exact .inr (.inl rfl) | exact .inr (.inr rfl)))) (PM.r qe_int)) (qd_cons (qe_item (PM.r (qv (i := 1) rfl (by first | exact .inl rfl | exact .inr (.inl rfl) | exact .inr (.inr rfl)))) (PM.r qe_int)) (qd_cons (qe_item (PM.r (qv (i := 1) rfl (by first | exact .inl rfl | exact .inr (.inl rfl) | exact .inr (.inr rfl)))) (PM.r qe_int)) (qd_cons (qe_item (PM.r (qv (i := 1) rfl (by first | exact .inl rfl | exact .inr (.inl rfl) | exact .inr (.inr rfl)))) (PM.r qe_int)) (qd_cons (qe_item (PM.r (qv (i := 1) rfl (by first | exact .inl rfl | exact .inr (.inl rfl) | exact .inr (.inr rfl)))) (PM.r qe_int)) (qd_cons (qe_item (PM.r (qv (i := 1) rfl (by first | exact .inl rfl | exact .inr (.inl rfl) | exact .inr (.inr rfl)))) (PM.r qe_int)) qd_nil)))))))))))))))))))
abbrev s_Walk___len__ : Stmt := inClass (top 23) 3
abbrev N_Walk___len__ : List Str := ["self"]
theorem sc_Walk___len__ : FnScope N_Walk___len__ ["self"] (defScope s_Walk___len__) := ⟨rfl, rfl, rfl, by decide +kernel, rfl, by decide +kernel, by decide +kernel⟩
noncomputable def m_Walk___len__ (A : Ca) : M Fl :=
  (mRet (mCB lenD (.ex (mFld [A.Walk] "steps" (mVar 0)))))
noncomputable def c_Walk___len__ (A : Ca) : List Sv → Res Sv := fnOf 1 1 0 (m_Walk___len__ A)
theorem ok_Walk___len__ {P : Program} {w : World} {K : PySem.W.Frag} {mg : Str → Option Value} {base : Heap} {A : Ca} {f : Addr} {fd : FuncData} (Fn : Fun K "__len__" "Walk.__len__" s_Walk___len__ f fd) (T : Txt K mg A)  : FnOk P w K mg base L2.CX0 1 f fd ["self"] (spM K 1 [none] (c_Walk___len__ A)) :=
  fnO Fn sc_Walk___len__ (by decide) (kd_of (by decide)) (fun cdv A0 outer s H E Γ hr hK hps hn L => by
    have np : ∀ i, i ∉ ([none] : List (Option Nat)).filterMap id → i ∉ Γ.ps := fun i h => hps ▸ h
    have npl : ∀ vs : List Nat, (∀ v ∈ vs, v ∉ ([none] : List (Option Nat)).filterMap id) → ∀ v ∈ vs, v ∉ Γ.ps := fun vs h => hps ▸ h
    have nn : ∀ i, i < (N_Walk___len__).length → i < Γ.n := fun i h => hn ▸ h
    exact (qss_one (qs_ret (qb_len (by rfl) T.b_len (PM.r (qe_fld (hK ▸ T.f_steps) (qv (i := 0) rfl (by first | exact .inl rfl | exact .inr (.inl rfl) | exact .inr (.inr rfl)))))))))
abbrev s_Walk___repr__ : Stmt := inClass (top 23) 5
abbrev N_Walk___repr__ : List Str := ["self"]
theorem sc_Walk___repr__ : FnScope N_Walk___repr__ ["self"] (defScope s_Walk___repr__) := ⟨rfl, rfl, rfl, by decide +kernel, rfl, by decide +kernel, by decide +kernel⟩
noncomputable def m_Walk___repr__ (A : Ca) : M Fl :=
  (mRet (mFstr [(mC (.str "Walk(")), (mUn fmtD (mFld [A.Walk] "states" (mVar 0))), (mC (.str " states, ")), (mUn fmtD (mCB lenD (.ex (mFld [A.Walk] "steps" (mVar 0))))), (mC (.str " steps)"))]))
noncomputable def c_Walk___repr__ (A : Ca) : List Sv → Res Sv := fnOf 1 1 0 (m_Walk___repr__ A)
theorem ok_Walk___repr__ {P : Program} {w : World} {K : PySem.W.Frag} {mg : Str → Option Value} {base : Heap} {A : Ca} {f : Addr} {fd : FuncData} (Fn : Fun K "__repr__" "Walk.__repr__" s_Walk___repr__ f fd) (T : Txt K mg A)  : FnOk P w K mg base L2.CX0 1 f fd ["self"] (spM K 1 [none] (c_Walk___repr__ A)) :=
  fnO Fn sc_Walk___repr__ (by decide) (kd_of (by decide)) (fun cdv A0 outer s H E Γ hr hK hps hn L => by
    have np : ∀ i, i ∉ ([none] : List (Option Nat)).filterMap id → i ∉ Γ.ps := fun i h => hps ▸ h
    have npl : ∀ vs : List Nat, (∀ v ∈ vs, v ∉ ([none] : List (Option Nat)).filterMap id) → ∀ v ∈ vs, v ∉ Γ.ps := fun vs h => hps ▸ h
    have nn : ∀ i, i < (N_Walk___repr__).length → i < Γ.n := fun i h => hn ▸ h
    exact (qss_one (qs_ret (qe_fstr (.cons qe_str (.cons (qe_fmt (qe_fld (hK ▸ T.f_states) (qv (i := 0) rfl (by first | exact .inl rfl | exact .inr (.inl rfl) | exact .inr (.inr rfl))))) (.cons qe_str (.cons (qe_fmt (qb_len (by rfl) T.b_len (PM.r (qe_fld (hK ▸ T.f_steps) (qv (i := 0) rfl (by first | exact .inl rfl | exact .inr (.inl rfl) | exact .inr (.inr rfl))))))) (.cons qe_str .nil)))))))))
abbrev s__law_shown : Stmt := top 37
abbrev N__law_shown : List Str := ["_law_mine", "_law_stages", "_law_moves_here", "_law_line", "_law_due"]
theorem sc__law_shown : FnScope N__law_shown ["_law_mine", "_law_stages", "_law_moves_here"] (defScope s__law_shown) := ⟨rfl, rfl, rfl, by decide +kernel, rfl, by decide +kernel, by decide +kernel⟩
noncomputable def m__law_shown (A : Ca) : M Fl :=
  (mSeq (mAsg 3 (mOp addD (.ex (mOp addD (.ex (mOp addD (.ex (mOp addD (.ex (mC (.str "Walk("))) (.ex (mCB strD (.ex (mVar 1)))))) (.ex (mC (.str " states, "))))) (.ex (mCB strD (.ex (mCB lenD (.ex (mVar 2)))))))) (.ex (mC (.str " steps)")))))
  (mSeq (mAsg 4 (mLst [(mVar 1), (mCB tupD (.ex (mCB sortA (.ex (mVar 2))))), (mCB lenD (.ex (mVar 2))), (mVar 3), (mOp neD (.ex (mVar 2)) (.ex (mLst [])))]))
  (mRet (mOp eqD (.ex (mCB reprD (.ex (mLst [(mFld [A.Walk] "states" (mVar 0)), (mFld [A.Walk] "steps" (mVar 0)), (mCB (lenO A.Walk (c_Walk___len__ A)) (.ex (mVar 0))), (mCB (reprO A.Walk (c_Walk___repr__ A)) (.ex (mVar 0))), (mCB (boolL A.Walk (c_Walk___len__ A)) (.ex (mVar 0)))])))) (.ex (mCB reprD (.ex (mVar 4))))))))
noncomputable def c__law_shown (A : Ca) : List Sv → Res Sv := fnOf 5 3 0 (m__law_shown A)
theorem ok__law_shown {P : Program} {w : World} {K : PySem.W.Frag} {mg : Str → Option Value} {base : Heap} {A : Ca} {f : Addr} {fd : FuncData} (Fn : Fun K "_law_shown" "_law_shown" s__law_shown f fd) (T : Txt K mg A) (h_Walk___len__ : ClM P w K mg base 1 A.Walk "__len__" (spM K 1 [none] (c_Walk___len__ A))) (h_Walk___repr__ : ClM P w K mg base 1 A.Walk "__repr__" (spM K 1 [none] (c_Walk___repr__ A))) : Pg.FnG P w K mg base 5 f fd ["_law_mine", "_law_stages", "_law_moves_here"] (spM K 3 [none, none, none] (c__law_shown A)) :=
  fnG Fn sc__law_shown (by decide) (kd_of (by decide)) (fun cdv A0 outer s H E Γ hr hgd hK hps hn L => by
    have np : ∀ i, i ∉ ([none, none, none] : List (Option Nat)).filterMap id → i ∉ Γ.ps := fun i h => hps ▸ h
    have npl : ∀ vs : List Nat, (∀ v ∈ vs, v ∉ ([none, none, none] : List (Option Nat)).filterMap id) → ∀ v ∈ vs, v ∉ Γ.ps := fun vs h => hps ▸ h
    have nn : ∀ i, i < (N__law_shown).length → i < Γ.n := fun i h => hn ▸ h
    exact (qss_cons (qs_set (i := 3) sc__law_shown.nd rfl (by first | exact .inl rfl | exact .inr rfl) (np 3 (by decide)) (qe_add (PM.r (qe_add (PM.r (qe_add (PM.r (qe_add (PM.r qe_str) (PM.r (qb_str (by rfl) T.b_str (PM.r (qv (i := 1) rfl (by first | exact .inl rfl | exact .inr (.inl rfl) | exact .inr (.inr rfl)))))))) (PM.r qe_str))) (PM.r (qb_str (by rfl) T.b_str (PM.r (qb_len (by rfl) T.b_len (PM.r (qv (i := 2) rfl (by first | exact .inl rfl | exact .inr (.inl rfl) | exact .inr (.inr rfl)))))))))) (PM.r qe_str)))
      (qss_cons (qs_set (i := 4) sc__law_shown.nd rfl (by first | exact .inl rfl | exact .inr rfl) (np 4 (by decide)) (qe_lst (qa_cons (qv (i := 1) rfl (by first | exact .inl rfl | exact .inr (.inl rfl) | exact .inr (.inr rfl))) (qa_cons (qb_tuple (by rfl) T.b_tuple (PM.r (qb_sortA (by rfl) T.b_sorted (PM.r (qv (i := 2) rfl (by first | exact .inl rfl | exact .inr (.inl rfl) | exact .inr (.inr rfl))))))) (qa_cons (qb_len (by rfl) T.b_len (PM.r (qv (i := 2) rfl (by first | exact .inl rfl | exact .inr (.inl rfl) | exact .inr (.inr rfl))))) (qa_cons (qv (i := 3) rfl (by first | exact .inl rfl | exact .inr (.inl rfl) | exact .inr (.inr rfl))) (qa_cons (qe_ne (PM.r (qv (i := 2) rfl (by first | exact .inl rfl | exact .inr (.inl rfl) | exact .inr (.inr rfl)))) (PM.r (qe_lst qa_nil))) qa_nil)))))))
      (qss_one (qs_ret (qe_eq (PM.r (qb_repr hgd (by rfl) T.b_repr (PM.r (qe_lst (qa_cons (qe_fld (hK ▸ T.f_states) (qv (i := 0) rfl (by first | exact .inl rfl | exact .inr (.inl rfl) | exact .inr (.inr rfl)))) (qa_cons (qe_fld (hK ▸ T.f_steps) (qv (i := 0) rfl (by first | exact .inl rfl | exact .inr (.inl rfl) | exact .inr (.inr rfl)))) (qa_cons (qb_lenO h_Walk___len__ hr (by decide) (by rfl) T.b_len (PM.r (qv (i := 0) rfl (by first | exact .inl rfl | exact .inr (.inl rfl) | exact .inr (.inr rfl))))) (qa_cons (qb_reprO hgd h_Walk___repr__ hr (by decide) (by rfl) T.b_repr (PM.r (qv (i := 0) rfl (by first | exact .inl rfl | exact .inr (.inl rfl) | exact .inr (.inr rfl))))) (qa_cons (qb_boolL T.nb_Walk h_Walk___len__ hr (by decide) (by rfl) T.b_bool (PM.r (qv (i := 0) rfl (by first | exact .inl rfl | exact .inr (.inl rfl) | exact .inr (.inr rfl))))) qa_nil))))))))) (PM.r (qb_repr hgd (by rfl) T.b_repr (PM.r (qv (i := 4) rfl (by first | exact .inl rfl | exact .inr (.inl rfl) | exact .inr (.inr rfl))))))))))))
abbrev s_Walk___eq__ : Stmt := inClass (top 23) 4
abbrev N_Walk___eq__ : List Str := ["self", "other"]
theorem sc_Walk___eq__ : FnScope N_Walk___eq__ ["self", "other"] (defScope s_Walk___eq__) := ⟨rfl, rfl, rfl, by decide +kernel, rfl, by decide +kernel, by decide +kernel⟩
noncomputable def m_Walk___eq__ (A : Ca) : M Fl :=
  (mRet (mAndV (mOp (isiD (tb A) (csl A)) (.ex (mVar 1)) (.ex (mC (.raw (.ref A.Walk))))) (mAndV (mOp eqD (.ex (mFld [A.Walk] "states" (mVar 0))) (.ex (mFld [A.Walk] "states" (mVar 1)))) (mOp eqD (.ex (mFld [A.Walk] "steps" (mVar 0))) (.ex (mFld [A.Walk] "steps" (mVar 1)))))))
noncomputable def c_Walk___eq__ (A : Ca) : List Sv → Res Sv := fnOf 2 2 0 (m_Walk___eq__ A)
theorem ok_Walk___eq__ {P : Program} {w : World} {K : PySem.W.Frag} {mg : Str → Option Value} {base : Heap} {A : Ca} {f : Addr} {fd : FuncData} (Fn : Fun K "__eq__" "Walk.__eq__" s_Walk___eq__ f fd) (T : Txt K mg A)  : FnOk P w K mg base L2.CX0 1 f fd ["self", "other"] (spM K 2 [none, none] (c_Walk___eq__ A)) :=
  fnO Fn sc_Walk___eq__ (by decide) (kd_of (by decide)) (fun cdv A0 outer s H E Γ hr hK hps hn L => by
    have np : ∀ i, i ∉ ([none, none] : List (Option Nat)).filterMap id → i ∉ Γ.ps := fun i h => hps ▸ h
    have npl : ∀ vs : List Nat, (∀ v ∈ vs, v ∉ ([none, none] : List (Option Nat)).filterMap id) → ∀ v ∈ vs, v ∉ Γ.ps := fun vs h => hps ▸ h
    have nn : ∀ i, i < (N_Walk___eq__).length → i < Γ.n := fun i h => hn ▸ h
    exact (qss_one (qs_ret (qe_and (qb_isi T.tb T.cs (by rfl) T.b_isinstance (PM.r (qv (i := 1) rfl (by first | exact .inl rfl | exact .inr (.inl rfl) | exact .inr (.inr rfl)))) (PM.r (qe_gc (by rfl) T.k_Walk (fun _ => .raw _)))) (qe_and (qe_eq (PM.r (qe_fld (hK ▸ T.f_states) (qv (i := 0) rfl (by first | exact .inl rfl | exact .inr (.inl rfl) | exact .inr (.inr rfl))))) (PM.r (qe_fld (hK ▸ T.f_states) (qv (i := 1) rfl (by first | exact .inl rfl | exact .inr (.inl rfl) | exact .inr (.inr rfl)))))) (qe_one (qe_eq (PM.r (qe_fld (hK ▸ T.f_steps) (qv (i := 0) rfl (by first | exact .inl rfl | exact .inr (.inl rfl) | exact .inr (.inr rfl))))) (PM.r (qe_fld (hK ▸ T.f_steps) (qv (i := 1) rfl (by first | exact .inl rfl | exact .inr (.inl rfl) | exact .inr (.inr rfl))))))))))))
abbrev s__law_apart : Stmt := top 38
abbrev N__law_apart : List Str := ["_law_one", "_law_two"]
theorem sc__law_apart : FnScope N__law_apart ["_law_one", "_law_two"] (defScope s__law_apart) := ⟨rfl, rfl, rfl, by decide +kernel, rfl, by decide +kernel, by decide +kernel⟩
noncomputable def m__law_apart (A : Ca) : M Fl :=
  (mRet (mOp eqD (.ex (mLst [(mOp (eqO A.Walk (c_Walk___eq__ A)) (.ex (mVar 0)) (.ex (mVar 1))), (mOp (eqO A.Walk (c_Walk___eq__ A)) (.ex (mVar 1)) (.ex (mVar 0))), (mOp (neO A.Walk (c_Walk___eq__ A)) (.ex (mVar 0)) (.ex (mVar 1))), (mOp (neO A.Walk (c_Walk___eq__ A)) (.ex (mVar 1)) (.ex (mVar 0)))])) (.ex (mLst [(mC (.bl false)), (mC (.bl false)), (mC (.bl true)), (mC (.bl true))]))))
noncomputable def c__law_apart (A : Ca) : List Sv → Res Sv := fnOf 2 2 0 (m__law_apart A)
theorem ok__law_apart {P : Program} {w : World} {K : PySem.W.Frag} {mg : Str → Option Value} {base : Heap} {A : Ca} {f : Addr} {fd : FuncData} (Fn : Fun K "_law_apart" "_law_apart" s__law_apart f fd) (T : Txt K mg A) (h_Walk___eq__ : ClM P w K mg base 1 A.Walk "__eq__" (spM K 2 [none, none] (c_Walk___eq__ A))) : FnOk P w K mg base L2.CX0 5 f fd ["_law_one", "_law_two"] (spM K 2 [none, none] (c__law_apart A)) :=
  fnO Fn sc__law_apart (by decide) (kd_of (by decide)) (fun cdv A0 outer s H E Γ hr hK hps hn L => by
    have np : ∀ i, i ∉ ([none, none] : List (Option Nat)).filterMap id → i ∉ Γ.ps := fun i h => hps ▸ h
    have npl : ∀ vs : List Nat, (∀ v ∈ vs, v ∉ ([none, none] : List (Option Nat)).filterMap id) → ∀ v ∈ vs, v ∉ Γ.ps := fun vs h => hps ▸ h
    have nn : ∀ i, i < (N__law_apart).length → i < Γ.n := fun i h => hn ▸ h
    exact (qss_one (qs_ret (qe_eq (PM.r (qe_lst (qa_cons (qe_eqO T.e_Walk h_Walk___eq__ hr (by decide) (PM.r (qv (i := 0) rfl (by first | exact .inl rfl | exact .inr (.inl rfl) | exact .inr (.inr rfl)))) (PM.r (qv (i := 1) rfl (by first | exact .inl rfl | exact .inr (.inl rfl) | exact .inr (.inr rfl))))) (qa_cons (qe_eqO T.e_Walk h_Walk___eq__ hr (by decide) (PM.r (qv (i := 1) rfl (by first | exact .inl rfl | exact .inr (.inl rfl) | exact .inr (.inr rfl)))) (PM.r (qv (i := 0) rfl (by first | exact .inl rfl | exact .inr (.inl rfl) | exact .inr (.inr rfl))))) (qa_cons (qe_neO T.e_Walk h_Walk___eq__ hr (by decide) (PM.r (qv (i := 0) rfl (by first | exact .inl rfl | exact .inr (.inl rfl) | exact .inr (.inr rfl)))) (PM.r (qv (i := 1) rfl (by first | exact .inl rfl | exact .inr (.inl rfl) | exact .inr (.inr rfl))))) (qa_cons (qe_neO T.e_Walk h_Walk___eq__ hr (by decide) (PM.r (qv (i := 1) rfl (by first | exact .inl rfl | exact .inr (.inl rfl) | exact .inr (.inr rfl)))) (PM.r (qv (i := 0) rfl (by first | exact .inl rfl | exact .inr (.inl rfl) | exact .inr (.inr rfl))))) qa_nil)))))) (PM.r (qe_lst (qa_cons qe_bl (qa_cons qe_bl (qa_cons qe_bl (qa_cons qe_bl qa_nil))))))))))
abbrev s__law_rule_right : Stmt := top 39
abbrev N__law_rule_right : List Str := ["_law_pool_here", "_law_stages", "_law_words_here", "_law_moves_here", "_law_way", "_law_base", "_law_ends", "_law_mine", "_law_again", "_law_sign", "_law_thing"]
theorem sc__law_rule_right : FnScope N__law_rule_right ["_law_pool_here"] (defScope s__law_rule_right) := ⟨rfl, rfl, rfl, by decide +kernel, rfl, by decide +kernel, by decide +kernel⟩
noncomputable def m__law_rule_right (A : Ca) : M Fl :=
  (mSeq (mAsgT (tgT 2 (tgCons (tgN 1) (tgCons (tgN 2) tgNil))) (mTup [(mOp addD (.ex (mC (.int 1))) (.ex (mFz (mCall (c__law_draw A) [(.io 0), (.ex (mC (.int 3)))])))), (mFz (mCall (c__law_words A) [(.io 0)]))]))
  (mSeq (mAsg 3 (mFz (mCall (c__law_moves A) [(.io 0), (.ex (mVar 1)), (.ex (mVar 2))])))
  (mSeq (mAsgT (tgT 2 (tgCons (tgN 4) (tgCons (tgN 5) tgNil))) (mTup [(mFz (mCall (c__law_draw A) [(.io 0), (.ex (mC (.int 5)))])), (mFz (mCall (c__law_name A) [(.io 0), (.ex (mC (.int 1))), (.ex (mC (.int 7)))]))]))
  (mSeq (mIf (fun δ => mBl ((mOp eqD (.ex (mVar 4)) (.ex (mC (.int 0)))) δ)) (mSeq (mAsg 6 (mLst [(mC (.str "along")), (mC (.str "against"))]))
  (mAsg 3 (mLcD (mLc (mIter (mC (.str "abcdefghijkl"))) [9] (tgN 9) mYes (mTup [(mFz (mCall (c__law_draw A) [(.io 0), (.ex (mVar 1))])), (mOp addD (.ex (mVar 5)) (.ex (mVar 9))), (mOp ixD (.ex (mVar 6)) (.ex (mFz (mCall (c__law_draw A) [(.io 0), (.ex (mC (.int 2)))])))), (mFz (mCall (c__law_draw A) [(.io 0), (.ex (mVar 1))]))]))))) mNx)
  (mSeq (mIf (fun δ => mBl ((mOp eqD (.ex (mVar 4)) (.ex (mC (.int 1)))) δ)) (mAsg 3 (mLst [])) mNx)
  (mSeq (mAsg 3 (mFz (mCall (c__law_turned A) [(.io 0), (.ex (mVar 3))])))
  (mSeq (mAsgT (tgT 2 (tgCons (tgN 7) (tgCons (tgN 8) tgNil))) (mTup [(mFz (mCall (c__law_rule A) [(.ex (mVar 1)), (.ex (mVar 3))])), (mFz (mCall (c__law_rule A) [(.ex (mVar 1)), (.ex (mFz (mCall (c__law_turned A) [(.io 0), (.ex (mVar 3))])))]))]))
  (mSeq (mIf (mOr (mNot (fun δ => mBl ((mFz (mCall (c__law_shown A) [(.ex (mVar 7)), (.ex (mVar 1)), (.ex (mVar 3))])) δ))) (mNot (fun δ => mBl ((mFz (mCall (c__law_shown A) [(.ex (mVar 8)), (.ex (mVar 1)), (.ex (mVar 3))])) δ)))) (mRet (mC (.bl false))) mNx)
  (mSeq (mIf (fun δ => mBl ((mOp neD (.ex (mLst [(mOp (eqO A.Walk (c_Walk___eq__ A)) (.ex (mVar 7)) (.ex (mVar 8))), (mOp (neO A.Walk (c_Walk___eq__ A)) (.ex (mVar 7)) (.ex (mVar 8))), (mOp (eqO A.Walk (c_Walk___eq__ A)) (.ex (mVar 8)) (.ex (mVar 7))), (mOp (eqO A.Walk (c_Walk___eq__ A)) (.ex (mVar 7)) (.ex (mVar 7)))])) (.ex (mLst [(mC (.bl true)), (mC (.bl false)), (mC (.bl true)), (mC (.bl true))]))) δ)) (mRet (mC (.bl false))) mNx)
  (mSeq (mIf (mNot (fun δ => mBl ((mCB allD (.ex (mLcD (mLc (mIter (mLst [(mFld [A.Walk] "steps" (mVar 7)), (mC .non), (mVar 1), (mCB (reprO A.Walk (c_Walk___repr__ A)) (.ex (mVar 7))), (mTup []), (mC (.bl true))])) [10] (tgN 10) mYes (mFz (mCall (c__law_apart A) [(.ex (mVar 7)), (.ex (mVar 10))])))))) δ))) (mRet (mC (.bl false))) mNx)
  (mSeq (mIf (mAnd (fun δ => mBl ((mOp ltD (.ex (mVar 1)) (.ex (mC (.int 3)))) δ)) (mNot (fun δ => mBl ((mFz (mCall (c__law_apart A) [(.ex (mVar 7)), (.ex (mFz (mCall (c__law_rule A) [(.ex (mOp addD (.ex (mVar 1)) (.ex (mC (.int 1))))), (.ex (mVar 3))])))])) δ)))) (mRet (mC (.bl false))) mNx)
  (mSeq (mIf (mAnd (fun δ => mBl ((mChain ltD ltD (.ex (mC (.int 0))) (.ex (mCB lenD (.ex (mVar 3)))) (.ex (mC (.int 7)))) δ)) (mNot (fun δ => mBl ((mFz (mCall (c__law_apart A) [(.ex (mFz (mCall (c__law_rule A) [(.ex (mVar 1)), (.ex (mSl (.ex (mVar 3)) (some (mC (.int 1))) none))]))), (.ex (mVar 7))])) δ)))) (mRet (mC (.bl false))) mNx)
  (mRet (mFz (mCall (c__law_shown A) [(.ex (mUI A.Walk (c_Walk___init__ A) (arrPS 1 [0]) (mAll [(mVar 1)]))), (.ex (mVar 1)), (.ex (mLst []))])))))))))))))))
noncomputable def c__law_rule_right (A : Ca) : List Sv → Res Sv := fnOf 11 1 1 (m__law_rule_right A)
theorem ok__law_rule_right {P : Program} {w : World} {K : PySem.W.Frag} {mg : Str → Option Value} {base : Heap} {A : Ca} {f : Addr} {fd : FuncData} (Fn : Fun K "_law_rule_right" "_law_rule_right" s__law_rule_right f fd) (T : Txt K mg A) (h__law_draw : Cl P w K mg base 1 "_law_draw" (spM K 2 [some 0, none] (c__law_draw A))) (h__law_words : Cl P w K mg base 3 "_law_words" (spM K 1 [some 0] (c__law_words A))) (h__law_moves : Cl P w K mg base 2 "_law_moves" (spM K 3 [some 0, none, none] (c__law_moves A))) (h__law_name : Cl P w K mg base 2 "_law_name" (spM K 3 [some 0, none, none] (c__law_name A))) (h__law_turned : Cl P w K mg base 3 "_law_turned" (spM K 2 [some 0, none] (c__law_turned A))) (h__law_rule : Cl P w K mg base 8 "_law_rule" (spM K 2 [none, none] (c__law_rule A))) (h__law_shown : ClG P w K mg base 5 "_law_shown" (spM K 3 [none, none, none] (c__law_shown A))) (h_Walk___eq__ : ClM P w K mg base 1 A.Walk "__eq__" (spM K 2 [none, none] (c_Walk___eq__ A))) (h_Walk___repr__ : ClM P w K mg base 1 A.Walk "__repr__" (spM K 1 [none] (c_Walk___repr__ A))) (h__law_apart : Cl P w K mg base 5 "_law_apart" (spM K 2 [none, none] (c__law_apart A))) (u_Walk___init___0_states : ClUI P w K mg base 5 A.Walk "Walk" ["states"] (arrPS 1 [0]) (c_Walk___init__ A)) : Pg.FnG P w K mg base 9 f fd ["_law_pool_here"] (spM K 1 [some 0] (c__law_rule_right A)) :=
  fnG Fn sc__law_rule_right (by decide) (kd_of (by decide)) (fun cdv A0 outer s H E Γ hr hgd hK hps hn L => by
    have np : ∀ i, i ∉ ([some 0] : List (Option Nat)).filterMap id → i ∉ Γ.ps := fun i h => hps ▸ h
    have npl : ∀ vs : List Nat, (∀ v ∈ vs, v ∉ ([some 0] : List (Option Nat)).filterMap id) → ∀ v ∈ vs, v ∉ Γ.ps := fun vs h => hps ▸ h
    have nn : ∀ i, i < (N__law_rule_right).length → i < Γ.n := fun i h => hn ▸ h
    exact (qss_cons (qs_asg (qe_tup (qa_cons (qe_add (PM.r qe_int) (PM.r (qe_fz (qo_call h__law_draw hr (by decide) (by rfl) (qag_io (i := 0) rfl (by first | exact .inl rfl | exact .inr (.inl rfl) | exact .inr (.inr rfl)) (qag_ex qe_int qag_nil)))))) (qa_cons (qe_fz (qo_call h__law_words hr (by decide) (by rfl) (qag_io (i := 0) rfl (by first | exact .inl rfl | exact .inr (.inl rfl) | exact .inr (.inr rfl)) qag_nil))) qa_nil))) (qg_tup (n := 2) (qg_cons (qg_name (i := 1) sc__law_rule_right.nd rfl (by first | exact .inl rfl | exact .inr rfl) (np 1 (by decide))) (qg_cons (qg_name (i := 2) sc__law_rule_right.nd rfl (by first | exact .inl rfl | exact .inr rfl) (np 2 (by decide))) qg_nil))))
      (qss_cons (qs_set (i := 3) sc__law_rule_right.nd rfl (by first | exact .inl rfl | exact .inr rfl) (np 3 (by decide)) (qe_fz (qo_call h__law_moves hr (by decide) (by rfl) (qag_io (i := 0) rfl (by first | exact .inl rfl | exact .inr (.inl rfl) | exact .inr (.inr rfl)) (qag_ex (qv (i := 1) rfl (by first | exact .inl rfl | exact .inr (.inl rfl) | exact .inr (.inr rfl))) (qag_ex (qv (i := 2) rfl (by first | exact .inl rfl | exact .inr (.inl rfl) | exact .inr (.inr rfl))) qag_nil))))))
      (qss_cons (qs_asg (qe_tup (qa_cons (qe_fz (qo_call h__law_draw hr (by decide) (by rfl) (qag_io (i := 0) rfl (by first | exact .inl rfl | exact .inr (.inl rfl) | exact .inr (.inr rfl)) (qag_ex qe_int qag_nil)))) (qa_cons (qe_fz (qo_call h__law_name hr (by decide) (by rfl) (qag_io (i := 0) rfl (by first | exact .inl rfl | exact .inr (.inl rfl) | exact .inr (.inr rfl)) (qag_ex qe_int (qag_ex qe_int qag_nil))))) qa_nil))) (qg_tup (n := 2) (qg_cons (qg_name (i := 4) sc__law_rule_right.nd rfl (by first | exact .inl rfl | exact .inr rfl) (np 4 (by decide))) (qg_cons (qg_name (i := 5) sc__law_rule_right.nd rfl (by first | exact .inl rfl | exact .inr rfl) (np 5 (by decide))) qg_nil))))
      (qss_cons (qs_if (qt_eq (PM.r (qv (i := 4) rfl (by first | exact .inl rfl | exact .inr (.inl rfl) | exact .inr (.inr rfl)))) (PM.r qe_int)) (qss_cons (qs_set (i := 6) sc__law_rule_right.nd rfl (by first | exact .inl rfl | exact .inr rfl) (np 6 (by decide)) (qe_lst (qa_cons qe_str (qa_cons qe_str qa_nil))))
      (qss_one (qs_lcD (i := 3) (own := [("_law_sign", 9)]) sc__law_rule_right.nd rfl rfl (sw_true rfl rfl rfl (by decide +kernel)) (np 3 (by decide)) (qi_seq qe_str) (blkOk_by (own := [("_law_sign", 9)]) (N := N__law_rule_right) (sc := defScope s__law_rule_right) (by decide +kernel)) (npl _ (by decide)) (by decide) (fun _ _ _ _ _ => (qg_name (i := 9) sc__law_rule_right.nd rfl (by first | exact .inl rfl | exact .inr rfl) (np 9 (by decide)))) (fun _ _ _ _ _ => qts_nil) (fun _ _ _ _ _ => (qe_tup (qa_cons (qe_fz (qo_call h__law_draw hr (by decide) (by rfl) (qag_io (i := 0) rfl (by first | exact .inl rfl | exact .inr (.inl rfl) | exact .inr (.inr rfl)) (qag_ex (qv (i := 1) rfl (by first | exact .inl rfl | exact .inr (.inl rfl) | exact .inr (.inr rfl))) qag_nil)))) (qa_cons (qe_add (PM.r (qv (i := 5) rfl (by first | exact .inl rfl | exact .inr (.inl rfl) | exact .inr (.inr rfl)))) (PM.r (qv (i := 9) rfl (by first | exact .inl rfl | exact .inr (.inl rfl) | exact .inr (.inr rfl))))) (qa_cons (qe_item (PM.r (qv (i := 6) rfl (by first | exact .inl rfl | exact .inr (.inl rfl) | exact .inr (.inr rfl)))) (PM.r (qe_fz (qo_call h__law_draw hr (by decide) (by rfl) (qag_io (i := 0) rfl (by first | exact .inl rfl | exact .inr (.inl rfl) | exact .inr (.inr rfl)) (qag_ex qe_int qag_nil)))))) (qa_cons (qe_fz (qo_call h__law_draw hr (by decide) (by rfl) (qag_io (i := 0) rfl (by first | exact .inl rfl | exact .inr (.inl rfl) | exact .inr (.inr rfl)) (qag_ex (qv (i := 1) rfl (by first | exact .inl rfl | exact .inr (.inl rfl) | exact .inr (.inr rfl))) qag_nil)))) qa_nil))))))))) qss_nil)
      (qss_cons (qs_if (qt_eq (PM.r (qv (i := 4) rfl (by first | exact .inl rfl | exact .inr (.inl rfl) | exact .inr (.inr rfl)))) (PM.r qe_int)) (qss_one (qs_set (i := 3) sc__law_rule_right.nd rfl (by first | exact .inl rfl | exact .inr rfl) (np 3 (by decide)) (qe_lst qa_nil))) qss_nil)
      (qss_cons (qs_set (i := 3) sc__law_rule_right.nd rfl (by first | exact .inl rfl | exact .inr rfl) (np 3 (by decide)) (qe_fz (qo_call h__law_turned hr (by decide) (by rfl) (qag_io (i := 0) rfl (by first | exact .inl rfl | exact .inr (.inl rfl) | exact .inr (.inr rfl)) (qag_ex (qv (i := 3) rfl (by first | exact .inl rfl | exact .inr (.inl rfl) | exact .inr (.inr rfl))) qag_nil)))))
      (qss_cons (qs_asg (qe_tup (qa_cons (qe_fz (qo_call h__law_rule hr (by decide) (by rfl) (qag_ex (qv (i := 1) rfl (by first | exact .inl rfl | exact .inr (.inl rfl) | exact .inr (.inr rfl))) (qag_ex (qv (i := 3) rfl (by first | exact .inl rfl | exact .inr (.inl rfl) | exact .inr (.inr rfl))) qag_nil)))) (qa_cons (qe_fz (qo_call h__law_rule hr (by decide) (by rfl) (qag_ex (qv (i := 1) rfl (by first | exact .inl rfl | exact .inr (.inl rfl) | exact .inr (.inr rfl))) (qag_ex (qe_fz (qo_call h__law_turned hr (by decide) (by rfl) (qag_io (i := 0) rfl (by first | exact .inl rfl | exact .inr (.inl rfl) | exact .inr (.inr rfl)) (qag_ex (qv (i := 3) rfl (by first | exact .inl rfl | exact .inr (.inl rfl) | exact .inr (.inr rfl))) qag_nil)))) qag_nil)))) qa_nil))) (qg_tup (n := 2) (qg_cons (qg_name (i := 7) sc__law_rule_right.nd rfl (by first | exact .inl rfl | exact .inr rfl) (np 7 (by decide))) (qg_cons (qg_name (i := 8) sc__law_rule_right.nd rfl (by first | exact .inl rfl | exact .inr rfl) (np 8 (by decide))) qg_nil))))
      (qss_cons (qs_if (PBw.pt (qw_or (qt_not (qt_val (qe_fz (qo_callG h__law_shown hgd hr (by decide) (by rfl) (qag_ex (qv (i := 7) rfl (by first | exact .inl rfl | exact .inr (.inl rfl) | exact .inr (.inr rfl))) (qag_ex (qv (i := 1) rfl (by first | exact .inl rfl | exact .inr (.inl rfl) | exact .inr (.inr rfl))) (qag_ex (qv (i := 3) rfl (by first | exact .inl rfl | exact .inr (.inl rfl) | exact .inr (.inr rfl))) qag_nil))))))) (qw_or1 (qt_not (qt_val (qe_fz (qo_callG h__law_shown hgd hr (by decide) (by rfl) (qag_ex (qv (i := 8) rfl (by first | exact .inl rfl | exact .inr (.inl rfl) | exact .inr (.inr rfl))) (qag_ex (qv (i := 1) rfl (by first | exact .inl rfl | exact .inr (.inl rfl) | exact .inr (.inr rfl))) (qag_ex (qv (i := 3) rfl (by first | exact .inl rfl | exact .inr (.inl rfl) | exact .inr (.inr rfl))) qag_nil)))))))))) (qss_one (qs_ret qe_bl)) qss_nil)
      (qss_cons (qs_if (qt_ne (PM.r (qe_lst (qa_cons (qe_eqO T.e_Walk h_Walk___eq__ hr (by decide) (PM.r (qv (i := 7) rfl (by first | exact .inl rfl | exact .inr (.inl rfl) | exact .inr (.inr rfl)))) (PM.r (qv (i := 8) rfl (by first | exact .inl rfl | exact .inr (.inl rfl) | exact .inr (.inr rfl))))) (qa_cons (qe_neO T.e_Walk h_Walk___eq__ hr (by decide) (PM.r (qv (i := 7) rfl (by first | exact .inl rfl | exact .inr (.inl rfl) | exact .inr (.inr rfl)))) (PM.r (qv (i := 8) rfl (by first | exact .inl rfl | exact .inr (.inl rfl) | exact .inr (.inr rfl))))) (qa_cons (qe_eqO T.e_Walk h_Walk___eq__ hr (by decide) (PM.r (qv (i := 8) rfl (by first | exact .inl rfl | exact .inr (.inl rfl) | exact .inr (.inr rfl)))) (PM.r (qv (i := 7) rfl (by first | exact .inl rfl | exact .inr (.inl rfl) | exact .inr (.inr rfl))))) (qa_cons (qe_eqO T.e_Walk h_Walk___eq__ hr (by decide) (PM.r (qv (i := 7) rfl (by first | exact .inl rfl | exact .inr (.inl rfl) | exact .inr (.inr rfl)))) (PM.r (qv (i := 7) rfl (by first | exact .inl rfl | exact .inr (.inl rfl) | exact .inr (.inr rfl))))) qa_nil)))))) (PM.r (qe_lst (qa_cons qe_bl (qa_cons qe_bl (qa_cons qe_bl (qa_cons qe_bl qa_nil))))))) (qss_one (qs_ret qe_bl)) qss_nil)
      (qss_cons (qs_if (qt_not (qt_val (qb_all (by rfl) T.b_all (PM.r (qe_lc (qo_lc (own := [("_law_thing", 10)]) sc__law_rule_right.nd (qi_seq (qe_lst (qa_cons (qe_fld (hK ▸ T.f_steps) (qv (i := 7) rfl (by first | exact .inl rfl | exact .inr (.inl rfl) | exact .inr (.inr rfl)))) (qa_cons qe_non (qa_cons (qv (i := 1) rfl (by first | exact .inl rfl | exact .inr (.inl rfl) | exact .inr (.inr rfl))) (qa_cons (qb_reprO hgd h_Walk___repr__ hr (by decide) (by rfl) T.b_repr (PM.r (qv (i := 7) rfl (by first | exact .inl rfl | exact .inr (.inl rfl) | exact .inr (.inr rfl))))) (qa_cons (qe_tup qa_nil) (qa_cons qe_bl qa_nil)))))))) (blkOk_by (own := [("_law_thing", 10)]) (N := N__law_rule_right) (sc := defScope s__law_rule_right) (by decide +kernel)) (npl _ (by decide)) (by decide) (fun _ _ _ _ _ => (qg_name (i := 10) sc__law_rule_right.nd rfl (by first | exact .inl rfl | exact .inr rfl) (np 10 (by decide)))) (fun _ _ _ _ _ => (qe_fz (qo_call h__law_apart hr (by decide) (by rfl) (qag_ex (qv (i := 7) rfl (by first | exact .inl rfl | exact .inr (.inl rfl) | exact .inr (.inr rfl))) (qag_ex (qv (i := 10) rfl (by first | exact .inl rfl | exact .inr (.inl rfl) | exact .inr (.inr rfl))) qag_nil))))))))))) (qss_one (qs_ret qe_bl)) qss_nil)
      (qss_cons (qs_if (PBw.pt (qw_and (qt_lt (PM.r (qv (i := 1) rfl (by first | exact .inl rfl | exact .inr (.inl rfl) | exact .inr (.inr rfl)))) (PM.r qe_int)) (qw_and1 (qt_not (qt_val (qe_fz (qo_call h__law_apart hr (by decide) (by rfl) (qag_ex (qv (i := 7) rfl (by first | exact .inl rfl | exact .inr (.inl rfl) | exact .inr (.inr rfl))) (qag_ex (qe_fz (qo_call h__law_rule hr (by decide) (by rfl) (qag_ex (qe_add (PM.r (qv (i := 1) rfl (by first | exact .inl rfl | exact .inr (.inl rfl) | exact .inr (.inr rfl)))) (PM.r qe_int)) (qag_ex (qv (i := 3) rfl (by first | exact .inl rfl | exact .inr (.inl rfl) | exact .inr (.inr rfl))) qag_nil)))) qag_nil))))))))) (qss_one (qs_ret qe_bl)) qss_nil)
      (qss_cons (qs_if (PBw.pt (qw_and (qt_lt_lt (PM.r qe_int) (PM.r (qb_len (by rfl) T.b_len (PM.r (qv (i := 3) rfl (by first | exact .inl rfl | exact .inr (.inl rfl) | exact .inr (.inr rfl)))))) (PM.r qe_int)) (qw_and1 (qt_not (qt_val (qe_fz (qo_call h__law_apart hr (by decide) (by rfl) (qag_ex (qe_fz (qo_call h__law_rule hr (by decide) (by rfl) (qag_ex (qv (i := 1) rfl (by first | exact .inl rfl | exact .inr (.inl rfl) | exact .inr (.inr rfl))) (qag_ex (qe_sl (PM.r (qv (i := 3) rfl (by first | exact .inl rfl | exact .inr (.inl rfl) | exact .inr (.inr rfl)))) (qp_some qe_int) qp_none) qag_nil)))) (qag_ex (qv (i := 7) rfl (by first | exact .inl rfl | exact .inr (.inl rfl) | exact .inr (.inr rfl))) qag_nil))))))))) (qss_one (qs_ret qe_bl)) qss_nil)
      (qss_one (qs_ret (qe_fz (qo_callG h__law_shown hgd hr (by decide) (by rfl) (qag_ex (qe_UI u_Walk___init___0_states hr (by decide) (by rfl) (qx_kw0 (qk_cons (qv (i := 1) rfl (by first | exact .inl rfl | exact .inr (.inl rfl) | exact .inr (.inr rfl))) qk_nil))) (qag_ex (qv (i := 1) rfl (by first | exact .inl rfl | exact .inr (.inl rfl) | exact .inr (.inr rfl))) (qag_ex (qe_lst qa_nil) qag_nil))))))))))))))))))))
abbrev s_check_names : Stmt := top 21
abbrev N_check_names : List Str := ["value", "least", "most", "earlier", "index", "name"]
theorem sc_check_names : FnScope N_check_names ["value", "least", "most"] (defScope s_check_names) := ⟨rfl, rfl, rfl, by decide +kernel, rfl, by decide +kernel, by decide +kernel⟩
noncomputable def m_check_names (A : Ca) : M Fl :=
  (mSeq (mIf (mNot (fun δ => mBl ((mChain leD leD (.ex (mVar 1)) (.ex (mCB lenD (.ex (mVar 0)))) (.ex (mVar 2))) δ))) mBad mNx)
  (mSeq (mAsgO 3 (mLstN []))
  (mFor (mEnum (mVar 0)) (tgT 2 (tgCons (tgN 4) (tgCons (tgN 5) tgNil))) (mSeq (mIf (mOr (mNot (fun δ => mBl ((mFz (mCall (c_is_name A) [(.ex (mVar 5))])) δ))) (fun δ => mBl ((mOp inD (.ex (mVar 5)) (.pk 3)) δ))) mBad mNx)
  (mDrop (mApp 3 (mVar 5)))))))
noncomputable def c_check_names (A : Ca) : List Sv → Res Sv := fnOf 6 3 0 (m_check_names A)
theorem ok_check_names {P : Program} {w : World} {K : PySem.W.Frag} {mg : Str → Option Value} {base : Heap} {A : Ca} {f : Addr} {fd : FuncData} (Fn : Fun K "check_names" "check_names" s_check_names f fd) (T : Txt K mg A) (h_is_name : Cl P w K mg base 1 "is_name" (spM K 1 [none] (c_is_name A))) : FnOk P w K mg base L2.CX0 2 f fd ["value", "least", "most"] (spM K 3 [none, none, none] (c_check_names A)) :=
  fnO Fn sc_check_names (by decide) (kd_of (by decide)) (fun cdv A0 outer s H E Γ hr hK hps hn L => by
    have np : ∀ i, i ∉ ([none, none, none] : List (Option Nat)).filterMap id → i ∉ Γ.ps := fun i h => hps ▸ h
    have npl : ∀ vs : List Nat, (∀ v ∈ vs, v ∉ ([none, none, none] : List (Option Nat)).filterMap id) → ∀ v ∈ vs, v ∉ Γ.ps := fun vs h => hps ▸ h
    have nn : ∀ i, i < (N_check_names).length → i < Γ.n := fun i h => hn ▸ h
    exact (qss_cons (qs_if (qt_not (qt_le_le (PM.r (qv (i := 1) rfl (by first | exact .inl rfl | exact .inr (.inl rfl) | exact .inr (.inr rfl)))) (PM.r (qb_len (by rfl) T.b_len (PM.r (qv (i := 0) rfl (by first | exact .inl rfl | exact .inr (.inl rfl) | exact .inr (.inr rfl)))))) (PM.r (qv (i := 2) rfl (by first | exact .inl rfl | exact .inr (.inl rfl) | exact .inr (.inr rfl)))))) (qss_one qs_never) qss_nil)
      (qss_cons (qs_setO (i := 3) sc_check_names.nd rfl (by first | exact .inl rfl | exact .inr rfl) (np 3 (by decide)) (qo_lst qa_nil))
      (qss_one (qs_for PassesOwn.never (qi_enum (by rfl) T.b_enumerate (qv (i := 0) rfl (by first | exact .inl rfl | exact .inr (.inl rfl) | exact .inr (.inr rfl)))) (qg_tup (n := 2) (qg_cons (qg_name (i := 4) sc_check_names.nd rfl (by first | exact .inl rfl | exact .inr rfl) (np 4 (by decide))) (qg_cons (qg_name (i := 5) sc_check_names.nd rfl (by first | exact .inl rfl | exact .inr rfl) (np 5 (by decide))) qg_nil))) (qss_cons (qs_if (PBw.pt (qw_or (qt_not (qt_val (qe_fz (qo_call h_is_name hr (by decide) (by rfl) (qag_ex (qv (i := 5) rfl (by first | exact .inl rfl | exact .inr (.inl rfl) | exact .inr (.inr rfl))) qag_nil))))) (qw_or1 (qt_in (PM.r (qv (i := 5) rfl (by first | exact .inl rfl | exact .inr (.inl rfl) | exact .inr (.inr rfl)))) (qr_pk (i := 3) rfl (by first | exact .inl rfl | exact .inr (.inl rfl) | exact .inr (.inr rfl))))))) (qss_one qs_never) qss_nil)
      (qss_one (qs_expr (qe_app (i := 3) rfl (by first | exact .inl rfl | exact .inr (.inl rfl) | exact .inr (.inr rfl)) (qv (i := 5) rfl (by first | exact .inl rfl | exact .inr (.inl rfl) | exact .inr (.inr rfl))))))))))))
abbrev s_rule_of : Stmt := top 22
abbrev N_rule_of : List Str := ["way", "names", "steps", "name"]
theorem sc_rule_of : FnScope N_rule_of ["way", "names"] (defScope s_rule_of) := ⟨rfl, rfl, rfl, by decide +kernel, rfl, by decide +kernel, by decide +kernel⟩
noncomputable def m_rule_of (A : Ca) : M Fl :=
  (mSeq (mDrop (mFz (mCall (c_check_names A) [(.ex (mVar 1)), (.ex (mC (.int 0))), (.ex (mC (.int 12)))])))
  (mSeq (mAsg 2 (mLcD (mLc (mIter (mVar 1)) [3] (tgN 3) mYes (mTup [(mC (.int 0)), (mVar 3), (mVar 0), (mC (.int 0))]))))
  (mRet (mUI A.Walk (c_Walk___init__ A) (arrS 1) (mCons (mC (.int 1)) (mStar (mVar 2) (mAll [])))))))
noncomputable def c_rule_of (A : Ca) : List Sv → Res Sv := fnOf 4 2 0 (m_rule_of A)
theorem ok_rule_of {P : Program} {w : World} {K : PySem.W.Frag} {mg : Str → Option Value} {base : Heap} {A : Ca} {f : Addr} {fd : FuncData} (Fn : Fun K "rule_of" "rule_of" s_rule_of f fd) (T : Txt K mg A) (h_check_names : Cl P w K mg base 2 "check_names" (spM K 3 [none, none, none] (c_check_names A))) (u_Walk___init__ : ClUI P w K mg base 5 A.Walk "Walk" [] (arrS 1) (c_Walk___init__ A)) : FnOk P w K mg base L2.CX0 7 f fd ["way", "names"] (spM K 2 [none, none] (c_rule_of A)) :=
  fnO Fn sc_rule_of (by decide) (kd_of (by decide)) (fun cdv A0 outer s H E Γ hr hK hps hn L => by
    have np : ∀ i, i ∉ ([none, none] : List (Option Nat)).filterMap id → i ∉ Γ.ps := fun i h => hps ▸ h
    have npl : ∀ vs : List Nat, (∀ v ∈ vs, v ∉ ([none, none] : List (Option Nat)).filterMap id) → ∀ v ∈ vs, v ∉ Γ.ps := fun vs h => hps ▸ h
    have nn : ∀ i, i < (N_rule_of).length → i < Γ.n := fun i h => hn ▸ h
    exact (qss_cons (qs_expr (qe_fz (qo_call h_check_names hr (by decide) (by rfl) (qag_ex (qv (i := 1) rfl (by first | exact .inl rfl | exact .inr (.inl rfl) | exact .inr (.inr rfl))) (qag_ex qe_int (qag_ex (qe_gc (by rfl) T.c_MOST_STEPS (fun _ => .int _)) qag_nil))))))
      (qss_cons (qs_lcD (i := 2) (own := [("name", 3)]) sc_rule_of.nd rfl rfl (sw_true rfl rfl rfl (by decide +kernel)) (np 2 (by decide)) (qi_seq (qv (i := 1) rfl (by first | exact .inl rfl | exact .inr (.inl rfl) | exact .inr (.inr rfl)))) (blkOk_by (own := [("name", 3)]) (N := N_rule_of) (sc := defScope s_rule_of) (by decide +kernel)) (npl _ (by decide)) (by decide) (fun _ _ _ _ _ => (qg_name (i := 3) sc_rule_of.nd rfl (by first | exact .inl rfl | exact .inr rfl) (np 3 (by decide)))) (fun _ _ _ _ _ => qts_nil) (fun _ _ _ _ _ => (qe_tup (qa_cons qe_int (qa_cons (qv (i := 3) rfl (by first | exact .inl rfl | exact .inr (.inl rfl) | exact .inr (.inr rfl))) (qa_cons (qv (i := 0) rfl (by first | exact .inl rfl | exact .inr (.inl rfl) | exact .inr (.inr rfl))) (qa_cons qe_int qa_nil)))))))
      (qss_one (qs_ret (qe_UI u_Walk___init__ hr (by decide) (by rfl) (qx_star (qd_cons qe_int (qd_star (qv (i := 2) rfl (by first | exact .inl rfl | exact .inr (.inl rfl) | exact .inr (.inr rfl))) qd_nil)))))))))
abbrev s_Walk_along : Stmt := inClass (top 23) 1
abbrev N_Walk_along : List Str := ["names"]
theorem sc_Walk_along : FnScope N_Walk_along ["names"] (defScope s_Walk_along) := ⟨rfl, rfl, rfl, by decide +kernel, rfl, by decide +kernel, by decide +kernel⟩
noncomputable def m_Walk_along (A : Ca) : M Fl :=
  (mRet (mFz (mCall (c_rule_of A) [(.ex (mC (.str "along"))), (.ex (mVar 0))])))
noncomputable def c_Walk_along (A : Ca) : List Sv → Res Sv := fnOf 1 1 0 (m_Walk_along A)
theorem ok_Walk_along {P : Program} {w : World} {K : PySem.W.Frag} {mg : Str → Option Value} {base : Heap} {A : Ca} {f : Addr} {fd : FuncData} (Fn : Fun K "along" "Walk.along" s_Walk_along f fd) (T : Txt K mg A) (h_rule_of : Cl P w K mg base 7 "rule_of" (spM K 2 [none, none] (c_rule_of A))) : StarOk P w K mg base L2.CX0 8 f fd [] "names" (spM K 1 [none] (c_Walk_along A)) :=
  fnS (ps := []) (pv := "names") Fn sc_Walk_along rfl (by decide) (kd_of (by decide)) (fun cdv A0 outer s H E Γ hr hK hps hn L => by
    have np : ∀ i, i ∉ ([none] : List (Option Nat)).filterMap id → i ∉ Γ.ps := fun i h => hps ▸ h
    have npl : ∀ vs : List Nat, (∀ v ∈ vs, v ∉ ([none] : List (Option Nat)).filterMap id) → ∀ v ∈ vs, v ∉ Γ.ps := fun vs h => hps ▸ h
    have nn : ∀ i, i < (N_Walk_along).length → i < Γ.n := fun i h => hn ▸ h
    exact (qss_one (qs_ret (qe_fz (qo_call h_rule_of hr (by decide) (by rfl) (qag_ex (qe_gc (by rfl) T.c_ALONG (fun _ => .str _)) (qag_ex (qv (i := 0) rfl (by first | exact .inl rfl | exact .inr (.inl rfl) | exact .inr (.inr rfl))) qag_nil)))))))
abbrev s__law_along : Stmt := top 34
abbrev N__law_along : List Str := ["_law_s"]
theorem sc__law_along : FnScope N__law_along ["_law_s"] (defScope s__law_along) := ⟨rfl, rfl, rfl, by decide +kernel, rfl, by decide +kernel, by decide +kernel⟩
noncomputable def m__law_along (A : Ca) : M Fl :=
  (mSeq (mIf (fun δ => mBl ((mOp eqD (.ex (mCB lenD (.ex (mVar 0)))) (.ex (mC (.int 12)))) δ)) (mRet (mFz (mDv (mU (c_Walk_along A) (arrS 0) (mCons (mOp ixD (.ex (mVar 0)) (.ex (mC (.int 0)))) (mCons (mOp ixD (.ex (mVar 0)) (.ex (mC (.int 1)))) (mCons (mOp ixD (.ex (mVar 0)) (.ex (mC (.int 2)))) (mCons (mOp ixD (.ex (mVar 0)) (.ex (mC (.int 3)))) (mCons (mOp ixD (.ex (mVar 0)) (.ex (mC (.int 4)))) (mCons (mOp ixD (.ex (mVar 0)) (.ex (mC (.int 5)))) (mCons (mOp ixD (.ex (mVar 0)) (.ex (mC (.int 6)))) (mCons (mOp ixD (.ex (mVar 0)) (.ex (mC (.int 7)))) (mCons (mOp ixD (.ex (mVar 0)) (.ex (mC (.int 8)))) (mCons (mOp ixD (.ex (mVar 0)) (.ex (mC (.int 9)))) (mCons (mOp ixD (.ex (mVar 0)) (.ex (mC (.int 10)))) (mCons (mOp ixD (.ex (mVar 0)) (.ex (mC (.int 11)))) (mAll []))))))))))))))))) mNx)
  (mSeq (mIf (fun δ => mBl ((mOp ltD (.ex (mCB lenD (.ex (mVar 0)))) (.ex (mC (.int 2)))) δ)) (mRet (mIf (fun δ => mBl ((mOp eqD (.ex (mCB lenD (.ex (mVar 0)))) (.ex (mC (.int 1)))) δ)) (mFz (mDv (mU (c_Walk_along A) (arrS 0) (mCons (mOp ixD (.ex (mVar 0)) (.ex (mC (.int 0)))) (mAll []))))) (mFz (mDv (mU (c_Walk_along A) (arrS 0) (mAll [])))))) mNx)
  (mRet (mIf (fun δ => mBl ((mOp eqD (.ex (mCB lenD (.ex (mVar 0)))) (.ex (mC (.int 3)))) δ)) (mFz (mDv (mU (c_Walk_along A) (arrS 0) (mCons (mOp ixD (.ex (mVar 0)) (.ex (mC (.int 0)))) (mCons (mOp ixD (.ex (mVar 0)) (.ex (mC (.int 1)))) (mCons (mOp ixD (.ex (mVar 0)) (.ex (mC (.int 2)))) (mAll []))))))) (mFz (mDv (mU (c_Walk_along A) (arrS 0) (mCons (mOp ixD (.ex (mVar 0)) (.ex (mC (.int 0)))) (mCons (mOp ixD (.ex (mVar 0)) (.ex (mC (.int 1)))) (mAll []))))))))))
noncomputable def c__law_along (A : Ca) : List Sv → Res Sv := fnOf 1 1 0 (m__law_along A)
theorem ok__law_along {P : Program} {w : World} {K : PySem.W.Frag} {mg : Str → Option Value} {base : Heap} {A : Ca} {f : Addr} {fd : FuncData} (Fn : Fun K "_law_along" "_law_along" s__law_along f fd) (T : Txt K mg A) (u_Walk_along : ClUS P w K mg base 8 A.Walk "along" [] (arrS 0) (c_Walk_along A)) : FnOk P w K mg base L2.CX0 9 f fd ["_law_s"] (spM K 1 [none] (c__law_along A)) :=
  fnO Fn sc__law_along (by decide) (kd_of (by decide)) (fun cdv A0 outer s H E Γ hr hK hps hn L => by
    have np : ∀ i, i ∉ ([none] : List (Option Nat)).filterMap id → i ∉ Γ.ps := fun i h => hps ▸ h
    have npl : ∀ vs : List Nat, (∀ v ∈ vs, v ∉ ([none] : List (Option Nat)).filterMap id) → ∀ v ∈ vs, v ∉ Γ.ps := fun vs h => hps ▸ h
    have nn : ∀ i, i < (N__law_along).length → i < Γ.n := fun i h => hn ▸ h
    exact (qss_cons (qs_if (qt_eq (PM.r (qb_len (by rfl) T.b_len (PM.r (qv (i := 0) rfl (by first | exact .inl rfl | exact .inr (.inl rfl) | exact .inr (.inr rfl)))))) (PM.r qe_int)) (qss_one (qs_ret (qe_fz (qo_dat (qe_US u_Walk_along hr (by decide) (qe_gc (by rfl) T.k_Walk (fun _ => .raw _)) (qx_pos (qd_cons (qe_item (PM.r (qv (i := 0) rfl (by first | exact .inl rfl | exact .inr (.inl rfl) | exact .inr (.inr rfl)))) (PM.r qe_int)) (qd_cons (qe_item (PM.r (qv (i := 0) rfl (by first | exact .inl rfl | exact .inr (.inl rfl) | exact .inr (.inr rfl)))) (PM.r qe_int)) (qd_cons (qe_item (PM.r (qv (i := 0) rfl (by first | exact .inl rfl | exact .inr (.inl rfl) | exact .inr (.inr rfl)))) (PM.r qe_int)) (qd_cons (qe_item (PM.r (qv (i := 0) rfl (by first | exact .inl rfl | exact .inr (.inl rfl) | exact .inr (.inr rfl)))) (PM.r qe_int)) (qd_cons (qe_item (PM.r (qv (i := 0) rfl (by first | exact .inl rfl | exact .inr (.inl rfl) | exact .inr (.inr rfl)))) (PM.r qe_int)) (qd_cons (qe_item (PM.r (qv (i := 0) rfl (by first | exact .inl rfl | exact .inr (.inl rfl) | exact .inr (.inr rfl)))) (PM.r qe_int)) (qd_cons (qe_item (PM.r (qv (i := 0) rfl (by first | exact .inl rfl | exact .inr (.inl rfl) | exact .inr (.inr rfl)))) (PM.r qe_int)) (qd_cons (qe_item (PM.r (qv (i := 0) rfl (by first | exact .inl rfl | exact .inr (.inl rfl) | exact .inr (.inr rfl)))) (PM.r qe_int)) (qd_cons (qe_item (PM.r (qv (i := 0) rfl (by first | exact .inl rfl | exact .inr (.inl rfl) | exact .inr (.inr rfl)))) (PM.r qe_int)) (qd_cons (qe_item (PM.r (qv (i := 0) rfl (by first | exact .inl rfl | exact .inr (.inl rfl) | exact .inr (.inr rfl)))) (PM.r qe_int)) (qd_cons (qe_item (PM.r (qv (i := 0) rfl (by first | exact .inl rfl | exact .inr (.inl rfl) | exact .inr (.inr rfl)))) (PM.r qe_int)) (qd_cons (qe_item (PM.r (qv (i := 0) rfl (by first | exact .inl rfl | exact .inr (.inl rfl) | exact .inr (.inr rfl)))) (PM.r qe_int)) qd_nil)))))))))))))))))) qss_nil)
      (qss_cons (qs_if (qt_lt (PM.r (qb_len (by rfl) T.b_len (PM.r (qv (i := 0) rfl (by first | exact .inl rfl | exact .inr (.inl rfl) | exact .inr (.inr rfl)))))) (PM.r qe_int)) (qss_one (qs_ret (qe_if (qt_eq (PM.r (qb_len (by rfl) T.b_len (PM.r (qv (i := 0) rfl (by first | exact .inl rfl | exact .inr (.inl rfl) | exact .inr (.inr rfl)))))) (PM.r qe_int)) (qe_fz (qo_dat (qe_US u_Walk_along hr (by decide) (qe_gc (by rfl) T.k_Walk (fun _ => .raw _)) (qx_pos (qd_cons (qe_item (PM.r (qv (i := 0) rfl (by first | exact .inl rfl | exact .inr (.inl rfl) | exact .inr (.inr rfl)))) (PM.r qe_int)) qd_nil))))) (qe_fz (qo_dat (qe_US u_Walk_along hr (by decide) (qe_gc (by rfl) T.k_Walk (fun _ => .raw _)) qx_nil)))))) qss_nil)
      (qss_one (qs_ret (qe_if (qt_eq (PM.r (qb_len (by rfl) T.b_len (PM.r (qv (i := 0) rfl (by first | exact .inl rfl | exact .inr (.inl rfl) | exact .inr (.inr rfl)))))) (PM.r qe_int)) (qe_fz (qo_dat (qe_US u_Walk_along hr (by decide) (qe_gc (by rfl) T.k_Walk (fun _ => .raw _)) (qx_pos (qd_cons (qe_item (PM.r (qv (i := 0) rfl (by first | exact .inl rfl | exact .inr (.inl rfl) | exact .inr (.inr rfl)))) (PM.r qe_int)) (qd_cons (qe_item (PM.r (qv (i := 0) rfl (by first | exact .inl rfl | exact .inr (.inl rfl) | exact .inr (.inr rfl)))) (PM.r qe_int)) (qd_cons (qe_item (PM.r (qv (i := 0) rfl (by first | exact .inl rfl | exact .inr (.inl rfl) | exact .inr (.inr rfl)))) (PM.r qe_int)) qd_nil))))))) (qe_fz (qo_dat (qe_US u_Walk_along hr (by decide) (qe_gc (by rfl) T.k_Walk (fun _ => .raw _)) (qx_pos (qd_cons (qe_item (PM.r (qv (i := 0) rfl (by first | exact .inl rfl | exact .inr (.inl rfl) | exact .inr (.inr rfl)))) (PM.r qe_int)) (qd_cons (qe_item (PM.r (qv (i := 0) rfl (by first | exact .inl rfl | exact .inr (.inl rfl) | exact .inr (.inr rfl)))) (PM.r qe_int)) qd_nil))))))))))))
abbrev s_Walk_against : Stmt := inClass (top 23) 2
abbrev N_Walk_against : List Str := ["names"]
theorem sc_Walk_against : FnScope N_Walk_against ["names"] (defScope s_Walk_against) := ⟨rfl, rfl, rfl, by decide +kernel, rfl, by decide +kernel, by decide +kernel⟩
noncomputable def m_Walk_against (A : Ca) : M Fl :=
  (mRet (mFz (mCall (c_rule_of A) [(.ex (mC (.str "against"))), (.ex (mVar 0))])))
noncomputable def c_Walk_against (A : Ca) : List Sv → Res Sv := fnOf 1 1 0 (m_Walk_against A)
theorem ok_Walk_against {P : Program} {w : World} {K : PySem.W.Frag} {mg : Str → Option Value} {base : Heap} {A : Ca} {f : Addr} {fd : FuncData} (Fn : Fun K "against" "Walk.against" s_Walk_against f fd) (T : Txt K mg A) (h_rule_of : Cl P w K mg base 7 "rule_of" (spM K 2 [none, none] (c_rule_of A))) : StarOk P w K mg base L2.CX0 8 f fd [] "names" (spM K 1 [none] (c_Walk_against A)) :=
  fnS (ps := []) (pv := "names") Fn sc_Walk_against rfl (by decide) (kd_of (by decide)) (fun cdv A0 outer s H E Γ hr hK hps hn L => by
    have np : ∀ i, i ∉ ([none] : List (Option Nat)).filterMap id → i ∉ Γ.ps := fun i h => hps ▸ h
    have npl : ∀ vs : List Nat, (∀ v ∈ vs, v ∉ ([none] : List (Option Nat)).filterMap id) → ∀ v ∈ vs, v ∉ Γ.ps := fun vs h => hps ▸ h
    have nn : ∀ i, i < (N_Walk_against).length → i < Γ.n := fun i h => hn ▸ h
    exact (qss_one (qs_ret (qe_fz (qo_call h_rule_of hr (by decide) (by rfl) (qag_ex (qe_gc (by rfl) T.c_AGAINST (fun _ => .str _)) (qag_ex (qv (i := 0) rfl (by first | exact .inl rfl | exact .inr (.inl rfl) | exact .inr (.inr rfl))) qag_nil)))))))
abbrev s__law_against : Stmt := top 35
abbrev N__law_against : List Str := ["_law_s"]
theorem sc__law_against : FnScope N__law_against ["_law_s"] (defScope s__law_against) := ⟨rfl, rfl, rfl, by decide +kernel, rfl, by decide +kernel, by decide +kernel⟩
noncomputable def m__law_against (A : Ca) : M Fl :=
  (mSeq (mIf (fun δ => mBl ((mOp eqD (.ex (mCB lenD (.ex (mVar 0)))) (.ex (mC (.int 12)))) δ)) (mRet (mFz (mDv (mU (c_Walk_against A) (arrS 0) (mCons (mOp ixD (.ex (mVar 0)) (.ex (mC (.int 0)))) (mCons (mOp ixD (.ex (mVar 0)) (.ex (mC (.int 1)))) (mCons (mOp ixD (.ex (mVar 0)) (.ex (mC (.int 2)))) (mCons (mOp ixD (.ex (mVar 0)) (.ex (mC (.int 3)))) (mCons (mOp ixD (.ex (mVar 0)) (.ex (mC (.int 4)))) (mCons (mOp ixD (.ex (mVar 0)) (.ex (mC (.int 5)))) (mCons (mOp ixD (.ex (mVar 0)) (.ex (mC (.int 6)))) (mCons (mOp ixD (.ex (mVar 0)) (.ex (mC (.int 7)))) (mCons (mOp ixD (.ex (mVar 0)) (.ex (mC (.int 8)))) (mCons (mOp ixD (.ex (mVar 0)) (.ex (mC (.int 9)))) (mCons (mOp ixD (.ex (mVar 0)) (.ex (mC (.int 10)))) (mCons (mOp ixD (.ex (mVar 0)) (.ex (mC (.int 11)))) (mAll []))))))))))))))))) mNx)
  (mSeq (mIf (fun δ => mBl ((mOp ltD (.ex (mCB lenD (.ex (mVar 0)))) (.ex (mC (.int 2)))) δ)) (mRet (mIf (fun δ => mBl ((mOp eqD (.ex (mCB lenD (.ex (mVar 0)))) (.ex (mC (.int 1)))) δ)) (mFz (mDv (mU (c_Walk_against A) (arrS 0) (mCons (mOp ixD (.ex (mVar 0)) (.ex (mC (.int 0)))) (mAll []))))) (mFz (mDv (mU (c_Walk_against A) (arrS 0) (mAll [])))))) mNx)
  (mRet (mIf (fun δ => mBl ((mOp eqD (.ex (mCB lenD (.ex (mVar 0)))) (.ex (mC (.int 3)))) δ)) (mFz (mDv (mU (c_Walk_against A) (arrS 0) (mCons (mOp ixD (.ex (mVar 0)) (.ex (mC (.int 0)))) (mCons (mOp ixD (.ex (mVar 0)) (.ex (mC (.int 1)))) (mCons (mOp ixD (.ex (mVar 0)) (.ex (mC (.int 2)))) (mAll []))))))) (mFz (mDv (mU (c_Walk_against A) (arrS 0) (mCons (mOp ixD (.ex (mVar 0)) (.ex (mC (.int 0)))) (mCons (mOp ixD (.ex (mVar 0)) (.ex (mC (.int 1)))) (mAll []))))))))))
noncomputable def c__law_against (A : Ca) : List Sv → Res Sv := fnOf 1 1 0 (m__law_against A)
theorem ok__law_against {P : Program} {w : World} {K : PySem.W.Frag} {mg : Str → Option Value} {base : Heap} {A : Ca} {f : Addr} {fd : FuncData} (Fn : Fun K "_law_against" "_law_against" s__law_against f fd) (T : Txt K mg A) (u_Walk_against : ClUS P w K mg base 8 A.Walk "against" [] (arrS 0) (c_Walk_against A)) : FnOk P w K mg base L2.CX0 9 f fd ["_law_s"] (spM K 1 [none] (c__law_against A)) :=
  fnO Fn sc__law_against (by decide) (kd_of (by decide)) (fun cdv A0 outer s H E Γ hr hK hps hn L => by
    have np : ∀ i, i ∉ ([none] : List (Option Nat)).filterMap id → i ∉ Γ.ps := fun i h => hps ▸ h
    have npl : ∀ vs : List Nat, (∀ v ∈ vs, v ∉ ([none] : List (Option Nat)).filterMap id) → ∀ v ∈ vs, v ∉ Γ.ps := fun vs h => hps ▸ h
    have nn : ∀ i, i < (N__law_against).length → i < Γ.n := fun i h => hn ▸ h
    exact (qss_cons (qs_if (qt_eq (PM.r (qb_len (by rfl) T.b_len (PM.r (qv (i := 0) rfl (by first | exact .inl rfl | exact .inr (.inl rfl) | exact .inr (.inr rfl)))))) (PM.r qe_int)) (qss_one (qs_ret (qe_fz (qo_dat (qe_US u_Walk_against hr (by decide) (qe_gc (by rfl) T.k_Walk (fun _ => .raw _)) (qx_pos (qd_cons (qe_item (PM.r (qv (i := 0) rfl (by first | exact .inl rfl | exact .inr (.inl rfl) | exact .inr (.inr rfl)))) (PM.r qe_int)) (qd_cons (qe_item (PM.r (qv (i := 0) rfl (by first | exact .inl rfl | exact .inr (.inl rfl) | exact .inr (.inr rfl)))) (PM.r qe_int)) (qd_cons (qe_item (PM.r (qv (i := 0) rfl (by first | exact .inl rfl | exact .inr (.inl rfl) | exact .inr (.inr rfl)))) (PM.r qe_int)) (qd_cons (qe_item (PM.r (qv (i := 0) rfl (by first | exact .inl rfl | exact .inr (.inl rfl) | exact .inr (.inr rfl)))) (PM.r qe_int)) (qd_cons (qe_item (PM.r (qv (i := 0) rfl (by first | exact .inl rfl | exact .inr (.inl rfl) | exact .inr (.inr rfl)))) (PM.r qe_int)) (qd_cons (qe_item (PM.r (qv (i := 0) rfl (by first | exact .inl rfl | exact .inr (.inl rfl) | exact .inr (.inr rfl)))) (PM.r qe_int)) (qd_cons (qe_item (PM.r (qv (i := 0) rfl (by first | exact .inl rfl | exact .inr (.inl rfl) | exact .inr (.inr rfl)))) (PM.r qe_int)) (qd_cons (qe_item (PM.r (qv (i := 0) rfl (by first | exact .inl rfl | exact .inr (.inl rfl) | exact .inr (.inr rfl)))) (PM.r qe_int)) (qd_cons (qe_item (PM.r (qv (i := 0) rfl (by first | exact .inl rfl | exact .inr (.inl rfl) | exact .inr (.inr rfl)))) (PM.r qe_int)) (qd_cons (qe_item (PM.r (qv (i := 0) rfl (by first | exact .inl rfl | exact .inr (.inl rfl) | exact .inr (.inr rfl)))) (PM.r qe_int)) (qd_cons (qe_item (PM.r (qv (i := 0) rfl (by first | exact .inl rfl | exact .inr (.inl rfl) | exact .inr (.inr rfl)))) (PM.r qe_int)) (qd_cons (qe_item (PM.r (qv (i := 0) rfl (by first | exact .inl rfl | exact .inr (.inl rfl) | exact .inr (.inr rfl)))) (PM.r qe_int)) qd_nil)))))))))))))))))) qss_nil)
      (qss_cons (qs_if (qt_lt (PM.r (qb_len (by rfl) T.b_len (PM.r (qv (i := 0) rfl (by first | exact .inl rfl | exact .inr (.inl rfl) | exact .inr (.inr rfl)))))) (PM.r qe_int)) (qss_one (qs_ret (qe_if (qt_eq (PM.r (qb_len (by rfl) T.b_len (PM.r (qv (i := 0) rfl (by first | exact .inl rfl | exact .inr (.inl rfl) | exact .inr (.inr rfl)))))) (PM.r qe_int)) (qe_fz (qo_dat (qe_US u_Walk_against hr (by decide) (qe_gc (by rfl) T.k_Walk (fun _ => .raw _)) (qx_pos (qd_cons (qe_item (PM.r (qv (i := 0) rfl (by first | exact .inl rfl | exact .inr (.inl rfl) | exact .inr (.inr rfl)))) (PM.r qe_int)) qd_nil))))) (qe_fz (qo_dat (qe_US u_Walk_against hr (by decide) (qe_gc (by rfl) T.k_Walk (fun _ => .raw _)) qx_nil)))))) qss_nil)
      (qss_one (qs_ret (qe_if (qt_eq (PM.r (qb_len (by rfl) T.b_len (PM.r (qv (i := 0) rfl (by first | exact .inl rfl | exact .inr (.inl rfl) | exact .inr (.inr rfl)))))) (PM.r qe_int)) (qe_fz (qo_dat (qe_US u_Walk_against hr (by decide) (qe_gc (by rfl) T.k_Walk (fun _ => .raw _)) (qx_pos (qd_cons (qe_item (PM.r (qv (i := 0) rfl (by first | exact .inl rfl | exact .inr (.inl rfl) | exact .inr (.inr rfl)))) (PM.r qe_int)) (qd_cons (qe_item (PM.r (qv (i := 0) rfl (by first | exact .inl rfl | exact .inr (.inl rfl) | exact .inr (.inr rfl)))) (PM.r qe_int)) (qd_cons (qe_item (PM.r (qv (i := 0) rfl (by first | exact .inl rfl | exact .inr (.inl rfl) | exact .inr (.inr rfl)))) (PM.r qe_int)) qd_nil))))))) (qe_fz (qo_dat (qe_US u_Walk_against hr (by decide) (qe_gc (by rfl) T.k_Walk (fun _ => .raw _)) (qx_pos (qd_cons (qe_item (PM.r (qv (i := 0) rfl (by first | exact .inl rfl | exact .inr (.inl rfl) | exact .inr (.inr rfl)))) (PM.r qe_int)) (qd_cons (qe_item (PM.r (qv (i := 0) rfl (by first | exact .inl rfl | exact .inr (.inl rfl) | exact .inr (.inr rfl)))) (PM.r qe_int)) qd_nil))))))))))))
abbrev s__law_names_right : Stmt := top 40
abbrev N__law_names_right : List Str := ["_law_pool_here", "_law_base", "_law_way", "_law_some", "_law_one", "_law_two", "_law_due", "_law_sign", "_law_word"]
theorem sc__law_names_right : FnScope N__law_names_right ["_law_pool_here"] (defScope s__law_names_right) := ⟨rfl, rfl, rfl, by decide +kernel, rfl, by decide +kernel, by decide +kernel⟩
noncomputable def m__law_names_right (A : Ca) : M Fl :=
  (mSeq (mAsgT (tgT 2 (tgCons (tgN 1) (tgCons (tgN 2) tgNil))) (mTup [(mFz (mCall (c__law_name A) [(.io 0), (.ex (mC (.int 1))), (.ex (mC (.int 7)))])), (mFz (mCall (c__law_draw A) [(.io 0), (.ex (mC (.int 5)))]))]))
  (mSeq (mAsg 3 (mIf (fun δ => mBl ((mOp eqD (.ex (mVar 2)) (.ex (mC (.int 4)))) δ)) (mLcD (mLc (mIter (mC (.str "abcdefghijkl"))) [7] (tgN 7) mYes (mOp addD (.ex (mVar 1)) (.ex (mVar 7))))) (mSl (.ex (mFz (mCall (c__law_words A) [(.io 0)]))) none (some (mVar 2)))))
  (mSeq (mAsg 3 (mFz (mCall (c__law_turned A) [(.io 0), (.ex (mVar 3))])))
  (mSeq (mPar 4 5 (mDv (mFz (mCall (c__law_along A) [(.ex (mVar 3))]))) (mDv (mFz (mCall (c__law_against A) [(.ex (mFz (mCall (c__law_turned A) [(.io 0), (.ex (mVar 3))])))]))))
  (mSeq (mAsg 6 (mLst [(mLcD (mLc (mIter (mVar 3)) [8] (tgN 8) mYes (mTup [(mC (.int 0)), (mVar 8), (mC (.str "along")), (mC (.int 0))]))), (mLcD (mLc (mIter (mVar 3)) [8] (tgN 8) mYes (mTup [(mC (.int 0)), (mVar 8), (mC (.str "against")), (mC (.int 0))])))]))
  (mSeq (mIf (mOr (mNot (fun δ => mBl ((mFz (mCall (c__law_shown A) [(.ex (mVar 4)), (.ex (mC (.int 1))), (.ex (mOp ixD (.ex (mVar 6)) (.ex (mC (.int 0)))))])) δ))) (mNot (fun δ => mBl ((mFz (mCall (c__law_shown A) [(.ex (mVar 5)), (.ex (mC (.int 1))), (.ex (mOp ixD (.ex (mVar 6)) (.ex (mC (.int 1)))))])) δ)))) (mRet (mC (.bl false))) mNx)
  (mSeq (mIf (mAnd (fun δ => mBl ((mOp neD (.ex (mVar 3)) (.ex (mLst []))) δ)) (mNot (fun δ => mBl ((mFz (mCall (c__law_apart A) [(.ex (mVar 4)), (.ex (mVar 5))])) δ)))) (mRet (mC (.bl false))) mNx)
  (mRet (mOp eqD (.ex (mLst [(mOp (eqO A.Walk (c_Walk___eq__ A)) (.ex (mVar 4)) (.ex (mFz (mCall (c__law_rule A) [(.ex (mC (.int 1))), (.ex (mOp ixD (.ex (mVar 6)) (.ex (mC (.int 0)))))])))), (mOp (eqO A.Walk (c_Walk___eq__ A)) (.ex (mVar 5)) (.ex (mFz (mCall (c__law_rule A) [(.ex (mC (.int 1))), (.ex (mOp ixD (.ex (mVar 6)) (.ex (mC (.int 1)))))]))))])) (.ex (mLst [(mC (.bl true)), (mC (.bl true))])))))))))))
noncomputable def c__law_names_right (A : Ca) : List Sv → Res Sv := fnOf 9 1 1 (m__law_names_right A)
theorem ok__law_names_right {P : Program} {w : World} {K : PySem.W.Frag} {mg : Str → Option Value} {base : Heap} {A : Ca} {f : Addr} {fd : FuncData} (Fn : Fun K "_law_names_right" "_law_names_right" s__law_names_right f fd) (T : Txt K mg A) (h__law_name : Cl P w K mg base 2 "_law_name" (spM K 3 [some 0, none, none] (c__law_name A))) (h__law_draw : Cl P w K mg base 1 "_law_draw" (spM K 2 [some 0, none] (c__law_draw A))) (h__law_words : Cl P w K mg base 3 "_law_words" (spM K 1 [some 0] (c__law_words A))) (h__law_turned : Cl P w K mg base 3 "_law_turned" (spM K 2 [some 0, none] (c__law_turned A))) (h__law_along : Cl P w K mg base 9 "_law_along" (spM K 1 [none] (c__law_along A))) (h__law_against : Cl P w K mg base 9 "_law_against" (spM K 1 [none] (c__law_against A))) (h__law_shown : ClG P w K mg base 5 "_law_shown" (spM K 3 [none, none, none] (c__law_shown A))) (h__law_apart : Cl P w K mg base 5 "_law_apart" (spM K 2 [none, none] (c__law_apart A))) (h__law_rule : Cl P w K mg base 8 "_law_rule" (spM K 2 [none, none] (c__law_rule A))) (h_Walk___eq__ : ClM P w K mg base 1 A.Walk "__eq__" (spM K 2 [none, none] (c_Walk___eq__ A))) : Pg.FnG P w K mg base 10 f fd ["_law_pool_here"] (spM K 1 [some 0] (c__law_names_right A)) :=
  fnG Fn sc__law_names_right (by decide) (kd_of (by decide)) (fun cdv A0 outer s H E Γ hr hgd hK hps hn L => by
    have np : ∀ i, i ∉ ([some 0] : List (Option Nat)).filterMap id → i ∉ Γ.ps := fun i h => hps ▸ h
    have npl : ∀ vs : List Nat, (∀ v ∈ vs, v ∉ ([some 0] : List (Option Nat)).filterMap id) → ∀ v ∈ vs, v ∉ Γ.ps := fun vs h => hps ▸ h
    have nn : ∀ i, i < (N__law_names_right).length → i < Γ.n := fun i h => hn ▸ h
    exact (qss_cons (qs_asg (qe_tup (qa_cons (qe_fz (qo_call h__law_name hr (by decide) (by rfl) (qag_io (i := 0) rfl (by first | exact .inl rfl | exact .inr (.inl rfl) | exact .inr (.inr rfl)) (qag_ex qe_int (qag_ex qe_int qag_nil))))) (qa_cons (qe_fz (qo_call h__law_draw hr (by decide) (by rfl) (qag_io (i := 0) rfl (by first | exact .inl rfl | exact .inr (.inl rfl) | exact .inr (.inr rfl)) (qag_ex qe_int qag_nil)))) qa_nil))) (qg_tup (n := 2) (qg_cons (qg_name (i := 1) sc__law_names_right.nd rfl (by first | exact .inl rfl | exact .inr rfl) (np 1 (by decide))) (qg_cons (qg_name (i := 2) sc__law_names_right.nd rfl (by first | exact .inl rfl | exact .inr rfl) (np 2 (by decide))) qg_nil))))
      (qss_cons (qs_set (i := 3) sc__law_names_right.nd rfl (by first | exact .inl rfl | exact .inr rfl) (np 3 (by decide)) (qe_if (qt_eq (PM.r (qv (i := 2) rfl (by first | exact .inl rfl | exact .inr (.inl rfl) | exact .inr (.inr rfl)))) (PM.r qe_int)) (qe_lc (qo_lc (own := [("_law_sign", 7)]) sc__law_names_right.nd (qi_seq qe_str) (blkOk_by (own := [("_law_sign", 7)]) (N := N__law_names_right) (sc := defScope s__law_names_right) (by decide +kernel)) (npl _ (by decide)) (by decide) (fun _ _ _ _ _ => (qg_name (i := 7) sc__law_names_right.nd rfl (by first | exact .inl rfl | exact .inr rfl) (np 7 (by decide)))) (fun _ _ _ _ _ => (qe_add (PM.r (qv (i := 1) rfl (by first | exact .inl rfl | exact .inr (.inl rfl) | exact .inr (.inr rfl)))) (PM.r (qv (i := 7) rfl (by first | exact .inl rfl | exact .inr (.inl rfl) | exact .inr (.inr rfl)))))))) (qe_sl (PM.r (qe_fz (qo_call h__law_words hr (by decide) (by rfl) (qag_io (i := 0) rfl (by first | exact .inl rfl | exact .inr (.inl rfl) | exact .inr (.inr rfl)) qag_nil)))) qp_none (qp_some (qv (i := 2) rfl (by first | exact .inl rfl | exact .inr (.inl rfl) | exact .inr (.inr rfl)))))))
      (qss_cons (qs_set (i := 3) sc__law_names_right.nd rfl (by first | exact .inl rfl | exact .inr rfl) (np 3 (by decide)) (qe_fz (qo_call h__law_turned hr (by decide) (by rfl) (qag_io (i := 0) rfl (by first | exact .inl rfl | exact .inr (.inl rfl) | exact .inr (.inr rfl)) (qag_ex (qv (i := 3) rfl (by first | exact .inl rfl | exact .inr (.inl rfl) | exact .inr (.inr rfl))) qag_nil)))))
      (qss_cons (qs_par (i := 4) (j := 5) sc__law_names_right.nd rfl rfl (by decide) rfl rfl (np 4 (by decide)) (np 5 (by decide)) (nn 4 (by decide)) (qo_dat (qe_fz (qo_call h__law_along hr (by decide) (by rfl) (qag_ex (qv (i := 3) rfl (by first | exact .inl rfl | exact .inr (.inl rfl) | exact .inr (.inr rfl))) qag_nil)))) (qo_dat (qe_fz (qo_call h__law_against hr (by decide) (by rfl) (qag_ex (qe_fz (qo_call h__law_turned hr (by decide) (by rfl) (qag_io (i := 0) rfl (by first | exact .inl rfl | exact .inr (.inl rfl) | exact .inr (.inr rfl)) (qag_ex (qv (i := 3) rfl (by first | exact .inl rfl | exact .inr (.inl rfl) | exact .inr (.inr rfl))) qag_nil)))) qag_nil)))) (by rfl))
      (qss_cons (qs_set (i := 6) sc__law_names_right.nd rfl (by first | exact .inl rfl | exact .inr rfl) (np 6 (by decide)) (qe_lst (qa_cons (qe_lc (qo_lc (own := [("_law_word", 8)]) sc__law_names_right.nd (qi_seq (qv (i := 3) rfl (by first | exact .inl rfl | exact .inr (.inl rfl) | exact .inr (.inr rfl)))) (blkOk_by (own := [("_law_word", 8)]) (N := N__law_names_right) (sc := defScope s__law_names_right) (by decide +kernel)) (npl _ (by decide)) (by decide) (fun _ _ _ _ _ => (qg_name (i := 8) sc__law_names_right.nd rfl (by first | exact .inl rfl | exact .inr rfl) (np 8 (by decide)))) (fun _ _ _ _ _ => (qe_tup (qa_cons qe_int (qa_cons (qv (i := 8) rfl (by first | exact .inl rfl | exact .inr (.inl rfl) | exact .inr (.inr rfl))) (qa_cons qe_str (qa_cons qe_int qa_nil)))))))) (qa_cons (qe_lc (qo_lc (own := [("_law_word", 8)]) sc__law_names_right.nd (qi_seq (qv (i := 3) rfl (by first | exact .inl rfl | exact .inr (.inl rfl) | exact .inr (.inr rfl)))) (blkOk_by (own := [("_law_word", 8)]) (N := N__law_names_right) (sc := defScope s__law_names_right) (by decide +kernel)) (npl _ (by decide)) (by decide) (fun _ _ _ _ _ => (qg_name (i := 8) sc__law_names_right.nd rfl (by first | exact .inl rfl | exact .inr rfl) (np 8 (by decide)))) (fun _ _ _ _ _ => (qe_tup (qa_cons qe_int (qa_cons (qv (i := 8) rfl (by first | exact .inl rfl | exact .inr (.inl rfl) | exact .inr (.inr rfl))) (qa_cons qe_str (qa_cons qe_int qa_nil)))))))) qa_nil))))
      (qss_cons (qs_if (PBw.pt (qw_or (qt_not (qt_val (qe_fz (qo_callG h__law_shown hgd hr (by decide) (by rfl) (qag_ex (qv (i := 4) rfl (by first | exact .inl rfl | exact .inr (.inl rfl) | exact .inr (.inr rfl))) (qag_ex qe_int (qag_ex (qe_item (PM.r (qv (i := 6) rfl (by first | exact .inl rfl | exact .inr (.inl rfl) | exact .inr (.inr rfl)))) (PM.r qe_int)) qag_nil))))))) (qw_or1 (qt_not (qt_val (qe_fz (qo_callG h__law_shown hgd hr (by decide) (by rfl) (qag_ex (qv (i := 5) rfl (by first | exact .inl rfl | exact .inr (.inl rfl) | exact .inr (.inr rfl))) (qag_ex qe_int (qag_ex (qe_item (PM.r (qv (i := 6) rfl (by first | exact .inl rfl | exact .inr (.inl rfl) | exact .inr (.inr rfl)))) (PM.r qe_int)) qag_nil)))))))))) (qss_one (qs_ret qe_bl)) qss_nil)
      (qss_cons (qs_if (PBw.pt (qw_and (qt_ne (PM.r (qv (i := 3) rfl (by first | exact .inl rfl | exact .inr (.inl rfl) | exact .inr (.inr rfl)))) (PM.r (qe_lst qa_nil))) (qw_and1 (qt_not (qt_val (qe_fz (qo_call h__law_apart hr (by decide) (by rfl) (qag_ex (qv (i := 4) rfl (by first | exact .inl rfl | exact .inr (.inl rfl) | exact .inr (.inr rfl))) (qag_ex (qv (i := 5) rfl (by first | exact .inl rfl | exact .inr (.inl rfl) | exact .inr (.inr rfl))) qag_nil))))))))) (qss_one (qs_ret qe_bl)) qss_nil)
      (qss_one (qs_ret (qe_eq (PM.r (qe_lst (qa_cons (qe_eqO T.e_Walk h_Walk___eq__ hr (by decide) (PM.r (qv (i := 4) rfl (by first | exact .inl rfl | exact .inr (.inl rfl) | exact .inr (.inr rfl)))) (PM.r (qe_fz (qo_call h__law_rule hr (by decide) (by rfl) (qag_ex qe_int (qag_ex (qe_item (PM.r (qv (i := 6) rfl (by first | exact .inl rfl | exact .inr (.inl rfl) | exact .inr (.inr rfl)))) (PM.r qe_int)) qag_nil)))))) (qa_cons (qe_eqO T.e_Walk h_Walk___eq__ hr (by decide) (PM.r (qv (i := 5) rfl (by first | exact .inl rfl | exact .inr (.inl rfl) | exact .inr (.inr rfl)))) (PM.r (qe_fz (qo_call h__law_rule hr (by decide) (by rfl) (qag_ex qe_int (qag_ex (qe_item (PM.r (qv (i := 6) rfl (by first | exact .inl rfl | exact .inr (.inl rfl) | exact .inr (.inr rfl)))) (PM.r qe_int)) qag_nil)))))) qa_nil)))) (PM.r (qe_lst (qa_cons qe_bl (qa_cons qe_bl qa_nil)))))))))))))))
abbrev s_law : Stmt := top 41
abbrev N_law : List Str := ["_law_cells", "_law_k", "_law_pool_here", "_law_turn"]
theorem sc_law : FnScope N_law ["_law_cells"] (defScope s_law) := ⟨rfl, rfl, rfl, by decide +kernel, rfl, by decide +kernel, by decide +kernel⟩
noncomputable def m_law (A : Ca) : M Fl :=
  (mSeq (mFor (mRng1 (mOp maxD (.ex (mC (.int 2))) (.ex (mOp minD (.ex (mCB lenD (.ex (mVar 0)))) (.ex (mC (.int 6))))))) (tgN 1) (mSeq (mAsgO 2 (mCall (c__law_pool A) [(.ex (mFz (mCall (c__law_cell A) [(.ex (mVar 0)), (.ex (mVar 1))])))]))
  (mFor (mRng1 (mC (.int 4))) (tgN 3) (mIf (mOr (mNot (fun δ => mBl ((mFz (mCall (c__law_rule_right A) [(.io 2)])) δ))) (mNot (fun δ => mBl ((mFz (mCall (c__law_names_right A) [(.io 2)])) δ)))) (mRet (mC (.bl false))) mNx))))
  (mRet (mC (.bl true))))
noncomputable def c_law (A : Ca) : List Sv → Res Sv := fnOf 4 1 0 (m_law A)
theorem ok_law {P : Program} {w : World} {K : PySem.W.Frag} {mg : Str → Option Value} {base : Heap} {A : Ca} {f : Addr} {fd : FuncData} (Fn : Fun K "law" "law" s_law f fd) (T : Txt K mg A) (h__law_pool : Cl P w K mg base 1 "_law_pool" (spM K 1 [none] (c__law_pool A))) (h__law_cell : Cl P w K mg base 1 "_law_cell" (spM K 2 [none, none] (c__law_cell A))) (h__law_names_right : ClG P w K mg base 10 "_law_names_right" (spM K 1 [some 0] (c__law_names_right A))) (h__law_rule_right : ClG P w K mg base 9 "_law_rule_right" (spM K 1 [some 0] (c__law_rule_right A))) : Pg.FnG P w K mg base 11 f fd ["_law_cells"] (spM K 1 [none] (c_law A)) :=
  fnG Fn sc_law (by decide) (kd_of (by decide)) (fun cdv A0 outer s H E Γ hr hgd hK hps hn L => by
    have np : ∀ i, i ∉ ([none] : List (Option Nat)).filterMap id → i ∉ Γ.ps := fun i h => hps ▸ h
    have npl : ∀ vs : List Nat, (∀ v ∈ vs, v ∉ ([none] : List (Option Nat)).filterMap id) → ∀ v ∈ vs, v ∉ Γ.ps := fun vs h => hps ▸ h
    have nn : ∀ i, i < (N_law).length → i < Γ.n := fun i h => hn ▸ h
    exact (qss_cons (qs_for PassesOwn.never (qi_rng1 (by rfl) T.b_range (qb_max (by rfl) T.b_max (PM.r qe_int) (PM.r (qb_min (by rfl) T.b_min (PM.r (qb_len (by rfl) T.b_len (PM.r (qv (i := 0) rfl (by first | exact .inl rfl | exact .inr (.inl rfl) | exact .inr (.inr rfl)))))) (PM.r qe_int))))) (qg_name (i := 1) sc_law.nd rfl (by first | exact .inl rfl | exact .inr rfl) (np 1 (by decide))) (qss_cons (qs_setO (i := 2) sc_law.nd rfl (by first | exact .inl rfl | exact .inr rfl) (np 2 (by decide)) (qo_call h__law_pool hr (by decide) (by rfl) (qag_ex (qe_fz (qo_call h__law_cell hr (by decide) (by rfl) (qag_ex (qv (i := 0) rfl (by first | exact .inl rfl | exact .inr (.inl rfl) | exact .inr (.inr rfl))) (qag_ex (qv (i := 1) rfl (by first | exact .inl rfl | exact .inr (.inl rfl) | exact .inr (.inr rfl))) qag_nil)))) qag_nil)))
      (qss_one (qs_for PassesOwn.never (qi_rng1 (by rfl) T.b_range qe_int) (qg_name (i := 3) sc_law.nd rfl (by first | exact .inl rfl | exact .inr rfl) (np 3 (by decide))) (qss_one (qs_if (PBw.pt (qw_or (qt_not (qt_val (qe_fz (qo_callG h__law_rule_right hgd hr (by decide) (by rfl) (qag_io (i := 2) rfl (by first | exact .inl rfl | exact .inr (.inl rfl) | exact .inr (.inr rfl)) qag_nil))))) (qw_or1 (qt_not (qt_val (qe_fz (qo_callG h__law_names_right hgd hr (by decide) (by rfl) (qag_io (i := 2) rfl (by first | exact .inl rfl | exact .inr (.inl rfl) | exact .inr (.inr rfl)) qag_nil)))))))) (qss_one (qs_ret qe_bl)) qss_nil))))))
      (qss_one (qs_ret qe_bl))))
end K21
set_option Elab.async false
set_option linter.all false
set_option maxRecDepth 100000
set_option maxHeartbeats 4000000
namespace K21
open PySem PySem.Spec PyProof.Rows L2 Pd Qm
local macro_rules | `(tactic| walk_at "ev") => `(tactic| simp (config := {dsimp := false}) only [↓wp_ok, ↓wp_bad, ↓wp_mC, ↓wp_var, ↓atV_dat, ↓atV_lst, ↓wp_rg, ↓wp_pk, ↓atP_dat, ↓atP_lst, rv_inl, rv_inr, svD_dat, svD_lst, ↓wp_op, ↓wp_cb, ↓wp_un, ↓atB_bl, ↓wp_mBl, ↓wp_chain, ↓wp_isN, ↓wp_and, ↓wp_or, ↓wp_not, ↓wp_andV, ↓wp_orV, ↓wp_notV, ↓wp_mIf, ↓wp_all0, ↓wp_all1, ↓wp_tup, ↓wp_lst, ↓wp_lstN, ↓wp_dv, ↓atF_dat, ↓atF_lst, ↓wp_fz, ↓atO_int, ↓wp_part0, ↓wp_part1, ↓wp_sl, ↓wp_fld, ↓wp_tgN, ↓wp_tgT, ↓wp_tgNil, ↓wp_tgCons, ↓seqK_nx, ↓seqK_rt, ↓seqK_bk, ↓seqK_ct, ↓wp_seq, ↓wp_nx, ↓wp_bk, ↓wp_ct, ↓wp_ret, ↓wp_retO, ↓wp_retN, ↓wp_drop, ↓wp_asg, ↓wp_asgO, ↓wp_asgT, ↓wp_par, ↓wp_par3, ↓atL_lst, ↓wp_app, ↓atI2_int, ↓wp_pop, ↓wp_tgSub, isL_lst, ↓wp_call, ↓wp_ags0, ↓wp_agsE, ↓wp_agsI, isOwn_lst, pick0, pickE, pickI, back0, backN, backX, backI, kindE, kindI, List.map_cons, List.map_nil, ↓fnK_rt, ↓fnK_nx, ↓wp_fn, ↓wp_for, ↓rndK_nx, ↓rndK_ct, ↓rndK_bk, ↓rndK_rt, ↓forK_nx, ↓forK_ct, ↓forK_bk, ↓forK_rt, ↓for0, ↓wp_iter, ↓wp_rng1, ↓wp_rng2, ↓atS_tup, ↓atS_lst, ↓wp_enum, ↓wp_lc, ↓wp_lcD, ↓wp_lcO, ↓wp_yes, ↓lc0, ↓wp_lrng, ↓wp_trng, ↓wp_lrngO, ↓wp_lstOf, ↓atX_ok, ↓wp_make, ↓wp_makeK, ↓atJ_ins, ↓wp_fldSet, ↓wp_meth, ↓atStr_str, ↓wp_js0, ↓wp_js1, ↓wp_fstr, ↓wp_join, ↓wp_cons, ↓wp_star, ↓wp_app2, ↓wp_opE, ↓atD_dat, ↓wp_U, ↓atOb_obj, ↓wp_UM, ↓wp_UI, ↓wo_arrP, ↓wo_arrS, ↓wo_arrPS, itemsD, wo_some, ↓wo_ite, ↓wo_map, ↓br_t, ↓br_f, ↓br_not, Qm.addD, subD, mulD, modD, divD, powD, ltD, leD, gtD, geD, Qm.intD, absD, lenD, maxD, minD, tupD, lstD, dmD, negD, seqD, isN, rngD, ixD_lst, ixD_tup, ixD_scr, slD, atI_0, atI_1, atI_2, atI_3, atI_4, atI_5, atI_6, atI_7, atI_8, atI_9, atI_10, atI_11, atI_12, ixN_30, ixN_31, ixN_32,
  List.getElem?_cons_zero, List.getElem?_cons_succ, List.set_cons_zero, List.set_cons_succ, List.getD_cons_zero, List.getD_cons_succ, List.cons_append, List.nil_append, List.replicate_succ, List.replicate_zero, List.take_succ_cons, List.take_zero, List.drop_succ_cons, List.drop_zero, List.append_nil, Nat.reduceEqDiff, Int.cast_ofNat_Int, List.length_cons, List.length_nil, wipeS, restS, lightS, Sv.light, List.all_cons, List.all_nil, Bool.and_true, Bool.and_self, true_and, and_true, and_self, Bool.not_true, Bool.not_false, Nat.reduceSub, Nat.reduceAdd, Nat.reduceLeDiff, Nat.zero_add, Int.reduceLT, Int.reduceLE, Int.reduceAdd, Int.reduceSub, Int.reduceMul, Int.reduceNeg, Int.reducePow, Int.reduceToNat, Nat.reducePow, eqD_int, neD_int, Int.reduceEq, ↓reduceIte, if_true, if_false, Bool.false_eq_true, gt_iff_lt, ge_iff_le, decide_true, decide_false])
local macro_rules | `(tactic| walk_at "sd") => `(tactic| first | omega | exact cdiv_lit (by decide) (by decide) | exact cpow_lit (by decide) (by decide) (by decide) | exact cmul_r (by omega) (by omega) | exact cmul_l (by omega) (by omega))
local macro_rules | `(tactic| walk_at "go") => `(tactic| (walk_at "ev"; repeat ((with_reducible refine And.intro ?_ ?_); (· walk_at "sd"); try walk_at "ev")))

variable {A : Ca}
/-- a pool: its seed, its digits, the draws so far -/
def Pool (p : List Dt) : Prop := ∃ a b c : Int, p = [.int a, .int b, .int c] ∧ 0 ≤ a ∧ a < 2147483563 ∧ 0 ≤ b
theorem t_draw {p : List Dt} {n : Int} {P : Sv → List Sv → Prop} (hp : Pool p) (h1 : 1 ≤ n) (h2 : n < 2 ^ 200) (h : ∀ (k : Nat) q, (k : Int) < n → Pool q → P (.dat (.int k)) [.lst q]) : Wp (c__law_draw A [.lst p, .dat (.int n)]) P := by
  obtain ⟨a, b, c, rfl, ha, ha2, hb⟩ := hp
  have hn : ∀ x : Int, ∃ k : Nat, x % n = (k : Int) ∧ (k : Int) < n := fun x => ⟨(x % n).toNat, by have := Int.emod_nonneg x (b := n) (by omega); omega, by have := Int.emod_nonneg x (b := n) (by omega); have := Int.emod_lt_of_pos x (b := n) (by omega); omega⟩
  unfold c__law_draw m__law_draw
  walk_at "ev"
  refine br_dec (fun hb1 => ?_) (fun hb1 => ?_)
  · walk_at "ev"
    refine ⟨⟨by omega, h2⟩, ?_⟩
    obtain ⟨k, e, hk⟩ := hn b
    rw [e]
    exact h k _ hk ⟨a, b / n, c + 1, rfl, ha, ha2, Int.ediv_nonneg hb (by omega)⟩
  · walk_at "go"
    generalize hz : _ % (2147483563 : Int) = z
    have hz1 : 0 ≤ z := hz ▸ Int.emod_nonneg _ (by decide)
    have hz2 : z < 2147483563 := hz ▸ Int.emod_lt_of_pos _ (by decide)
    obtain ⟨k, e, hk⟩ := hn (z / 128)
    rw [e]
    exact h k _ hk ⟨z, b, c + 1, rfl, hz1, hz2, hb⟩
theorem t_pool {z : Int} {P : Sv → List Sv → Prop} (h : ∀ p, Pool p → P (.lst p) []) : Wp (c__law_pool A [.dat (.int z)]) P := by
  have e1 : 0 ≤ z % 2147483563 := Int.emod_nonneg _ (by decide)
  have e2 : z % 2147483563 < 2147483563 := Int.emod_lt_of_pos _ (by decide)
  have fin : ∀ a b : Int, 0 ≤ b → P (.lst [.int (a % 2147483563), .int b, .int 0]) [] := fun a b hb => h _ ⟨_, _, _, rfl, Int.emod_nonneg _ (by decide), Int.emod_lt_of_pos _ (by decide), hb⟩
  unfold c__law_pool m__law_pool
  walk_at "go"
  refine br_dec (fun hb => ?_) (fun hb => ?_)
  · walk_at "go"
    exact fin _ _ (by omega)
  · walk_at "go"
    refine br_dec (fun hc => ?_) (fun hc => ?_)
    · walk_at "go"
      exact fin _ _ (by omega)
    · walk_at "go"
      exact fin _ _ (by omega)
theorem t_cell {ns : List Int} {k : Nat} {P : Sv → List Sv → Prop} (hk : k ≤ 1000) (h : ∀ z, P (.dat (.int z)) []) : Wp (c__law_cell A [.dat (.scr ns), .dat (.int k)]) P := by
  unfold c__law_cell m__law_cell
  walk_at "go"
  refine br_dec (fun hb => ?_) (fun hb => ?_)
  · walk_at "go"
    rw [atK (by omega)]
    exact h _
  · walk_at "go"
    refine for_at (fun i δ => ∃ z x, δ = [.dat (.scr ns), .dat (.int k), .dat (.int z), x]) ⟨_, _, rfl⟩ ?_ ?_
    · rintro i d δ hd ⟨z, x, rfl⟩
      have hd := List.mem_of_getElem? hd
      rw [List.mem_map] at hd
      obtain ⟨y, _, rfl⟩ := hd
      walk_at "go"
      exact ⟨_, _, rfl⟩
    · rintro δ ⟨z, x, rfl⟩
      walk_at "go"
      exact h _

theorem t_name {p : List Dt} {a b : Nat} {P : Sv → List Sv → Prop} (hp : Pool p) (ha : 1 ≤ a) (hab : a ≤ b) (hb : b ≤ 20) (h : ∀ z q, Nm a b z → Pool q → P (.dat (.str z)) [.lst q]) : Wp (c__law_name A [.lst p, .dat (.int a), .dat (.int b)]) P := by
  have e26 : lettersS.length = 26 := by decide +kernel
  have e36 : signsS.length = 36 := by decide +kernel
  have es : (lettersS ++ ("0123456789" : Str)) = signsS := by decide +kernel
  unfold c__law_name m__law_name
  walk_at "go"
  refine t_draw hp (by decide) (by decide) fun k q hk hq => ?_
  walk_at "go"
  refine wo_at (by decide +kernel) (by show k < lettersS.length; omega) fun c hc => ?_
  walk_at "go"
  refine t_draw hq (by omega) (by have e : (2 : Int) ^ 200 > 1000 := by decide
                                  omega) fun m q2 hm hq2 => ?_
  walk_at "go"
  refine for_at (fun i δ => ∃ (z : Str) (q : List Dt) (t : Sv), δ = [.lst q, .dat (.int a), .dat (.int b), .dat (.str lettersS), .dat (.str z), t] ∧ Nm (i + 1) (i + 1) z ∧ Pool q) ⟨_, _, _, rfl, .one hc, hq2⟩ ?_ ?_
  · rintro i d δ hd ⟨z, q, t, rfl, hz, hq⟩
    obtain ⟨hi, rfl⟩ := upto_get hd
    have hzl := hz.hi
    walk_at "ev"
    refine ⟨by decide +kernel, ?_⟩
    refine t_draw hq (by decide) (by decide) fun k q2 hk hq2 => ?_
    walk_at "ev"
    show Qm.Wo (ixD (.str (lettersS ++ ("0123456789" : Str))) _) _
    rw [es]
    refine wo_at (by decide +kernel) (by omega) fun c hc => ?_
    walk_at "ev"
    refine ⟨by show z.length + 1 ≤ 100000; omega, _, _, _, rfl, hz.app fun d hd => ?_, hq2⟩
    rw [List.mem_singleton.mp (show d ∈ [c] from hd)]
    exact hc
  · rintro δ ⟨z, q, t, rfl, hz, hq⟩
    rw [upto_len] at hz
    walk_at "go"
    exact h z q (hz.mono (by omega) (by omega)) hq
theorem t_is_name {z : Str} {P : Sv → List Sv → Prop} (hz : Nm 1 8 z) (h : P (.dat (.bl true)) []) : Wp (c_is_name A [.dat (.str z)]) P := by
  have h8 := hz.hi
  have h1 := hz.lo
  obtain ⟨e, r, q1, q2, q3, _, _⟩ := hz
  unfold c_is_name m_is_name
  walk_at "ev"
  rw [isi_str]
  walk_at "go"
  refine br_dec (fun _ => ?_) (fun z => by omega)
  walk_at "go"
  refine br_dec (fun _ => ?_) (fun z => by omega)
  walk_at "go"
  refine wo_at0 (by omega) q1 ?_
  walk_at "go"
  rw [inD_sign, decide_eq_true q2]
  walk_at "go"
  refine ⟨by show (z.cps.toList.map _).length ≤ _; rw [List.length_map, ← len_cps]; omega, ?_⟩
  refine lc_map (fun i ys δ => ys = List.replicate i (.bl true) ∧ ∃ t, δ = [.dat (.str z), t]) ⟨rfl, _, rfl⟩ ?_ ?_
  · rintro i d ys δ hd ⟨rfl, t, rfl⟩
    have hd := List.mem_of_getElem? hd
    obtain ⟨c, hc, rfl⟩ := List.mem_map.mp (show d ∈ z.cps.toList.map _ from hd)
    walk_at "go"
    rw [inD_sign, decide_eq_true (q3 c hc)]
    walk_at "go"
    exact ⟨List.replicate_succ'.symm, _, rfl⟩
  · rintro ys δ ⟨rfl, t, rfl⟩
    walk_at "go"
    rw [allD_true]
    walk_at "go"
    exact h
theorem t_pages {p : List Dt} {m n : Nat} {P : Sv → List Sv → Prop} (hp : Pool p) (hm : m ≤ 1000) (hn : n ≤ m) (h : ∀ (is js : List Nat) q, (is ++ js).Perm (List.range m) → is.length = n → Pool q → P (.dat (.tup (is.map natD))) [.lst q]) : Wp (c__law_pages A [.lst p, .dat (.int m), .dat (.int n)]) P := by
  unfold c__law_pages m__law_pages
  walk_at "go"
  rw [upto_nat (m := m)]
  refine for_at (fun i δ => ∃ (is js : List Nat) (q : List Dt) (t : Sv), δ = [.lst q, .dat (.int m), .dat (.int n), .lst (js.map natD), .lst (is.map natD), t] ∧ (is ++ js).Perm (List.range m) ∧ is.length = i ∧ Pool q) ⟨[], List.range m, p, .un, rfl, .refl _, rfl, hp⟩ ?_ ?_
  · rintro i d δ hd ⟨is, js, q, t, rfl, hj, hi, hq⟩
    obtain ⟨hlt, rfl⟩ := upto_get hd
    have hl := hj.length_eq
    simp only [List.length_append, List.length_range] at hl
    walk_at "ev"
    refine t_draw hq (by simp; omega) (by have e : (2 : Int) ^ 200 > 100000 := by decide
                                          simp; omega) fun k q2 hk hq2 => ?_
    simp only [List.length_map] at hk
    walk_at "go"
    have hk' : k < js.length := by omega
    rw [Int.toNat_natCast, List.getElem?_map, List.getElem?_eq_getElem hk']
    simp only [Option.map_some]
    walk_at "go"
    refine ⟨by rw [List.length_map]; omega, is ++ [js[k]], js.eraseIdx k, q2, _, by rw [List.map_append, map_erase]; rfl, ?_, by simp [hi], hq2⟩
    refine List.Perm.trans ?_ hj
    rw [List.append_assoc]
    exact List.Perm.append_left is (perm_erase hk')
  · rintro δ ⟨is, js, q, t, rfl, hj, hi, hq⟩
    rw [upto_len] at hi
    walk_at "go"
    exact h is js q hj (by omega) hq

theorem t_words {p : List Dt} {P : Sv → List Sv → Prop} (hp : Pool p) (h : ∀ (l : List Str) q, l.Nodup → l.length = 3 → (∀ z ∈ l, Nm 1 8 z) → Pool q → P (.dat (.lst (l.map Dt.str))) [.lst q]) : Wp (c__law_words A [.lst p]) P := by
  have e36 : signsS.length = 36 := by decide +kernel
  unfold c__law_words m__law_words
  walk_at "ev"
  refine t_name (a := 1) (b := 6) hp (by decide) (by decide) (by decide) fun z1 q hz1 hq => ?_
  walk_at "ev"
  refine t_draw hq (by decide) (by decide) fun k q hk hq => ?_
  walk_at "ev"
  refine wo_at (by decide +kernel) (by show k < signsS.length; omega) fun c hc => ?_
  have l1 := hz1.hi
  walk_at "ev"
  refine ⟨by show z1.length + 1 ≤ 100000; omega, ?_⟩
  refine t_name (a := 1) (b := 8) hq (by decide) (by decide) (by decide) fun z3 q hz3 hq => ?_
  walk_at "ev"
  have hz2 : Nm 2 7 (z1 ++ ⟨#[c]⟩) := hz1.app fun d hd => by
    rw [List.mem_singleton.mp (show d ∈ [c] from hd)]
    exact hc
  have n12 : z1 ≠ z1 ++ ⟨#[c]⟩ := fun e => by
    have := congrArg Str.length e
    rw [slen_app] at this
    have : (⟨#[c]⟩ : Str).length = 1 := rfl
    omega
  refine wo_in rfl rfl (Nat.zero_le _) fun b hb => ?_
  walk_at "ev"
  refine br_of (fun e => ?_) (fun e => ?_)
  · walk_at "ev"
    refine ⟨by show z1.length + 2 ≤ 100000; omega, ?_⟩
    refine h [z1, z1 ++ ⟨#[c]⟩, z1 ++ ("x0" : Str)] q ?_ rfl ?_ hq
    · have n13 : z1 ≠ z1 ++ ("x0" : Str) := fun e => by
        have := congrArg Str.length e
        rw [slen_app] at this
        have : ("x0" : Str).length = 2 := by decide +kernel
        omega
      have n23 : z1 ++ ⟨#[c]⟩ ≠ z1 ++ ("x0" : Str) := fun e => by
        have := congrArg Str.length e
        rw [slen_app, slen_app] at this
        have : ("x0" : Str).length = 2 := by decide +kernel
        have : (⟨#[c]⟩ : Str).length = 1 := rfl
        omega
      simp [n12, n13, n23]
    · intro z hz
      simp only [List.mem_cons, List.not_mem_nil, or_false] at hz
      rcases hz with rfl | rfl | rfl
      · exact hz1.mono (by omega) (by omega)
      · exact hz2.mono (by omega) (by omega)
      · exact (hz1.app (y := ("x0" : Str)) (by decide +kernel)).mono (by decide) (by decide +kernel)
  · walk_at "ev"
    have hn : z3 ≠ z1 ∧ z3 ≠ z1 ++ ⟨#[c]⟩ := by
      have : ¬ (b = true) := by rw [e]; decide
      rw [hb] at this
      simp at this
      exact this
    refine h [z1, z1 ++ ⟨#[c]⟩, z3] q ?_ rfl ?_ hq
    · simp [n12, hn.1.symm, hn.2.symm]
    · intro z hz
      simp only [List.mem_cons, List.not_mem_nil, or_false] at hz
      rcases hz with rfl | rfl | rfl
      · exact hz1.mono (by omega) (by omega)
      · exact hz2.mono (by omega) (by omega)
      · exact hz3

/-- [xs[k] for k in an order of all places] -/
theorem lc_pick {α : Type} {f : α → Dt} {l : List α} {is : List Nat} {vs : List Nat} {t : Tgt} {el : M Dt} {δ : List Sv} {P : List Dt → List Sv → Prop} (hi : is.Perm (List.range l.length))
    (hel : ∀ (j : Nat) (hj : j < l.length), Wp (t (natD j) (wipeS δ vs)) fun _ δ1 => Wp (el δ1) fun y δ3 => y = f l[j] ∧ restS δ3 δ vs = δ) (h : ∀ l' : List α, l'.Perm l → P (l'.map f) δ) : Wp (lcL vs t mYes el (is.map natD) δ) P := by
  refine lc_map (fun i ys δ' => (∃ l' : List α, ys = l'.map f ∧ l'.map some = (is.take i).map fun j => l[j]?) ∧ δ' = δ) ⟨⟨[], rfl, rfl⟩, rfl⟩ ?_ ?_
  · rintro i d ys δ' hd ⟨⟨l', rfl, hl'⟩, rfl⟩
    rw [List.getElem?_map] at hd
    cases e : is[i]? with
    | none => rw [e] at hd; cases hd
    | some j =>
      rw [e] at hd
      cases hd
      have hj : j < l.length := by simpa using hi.mem_iff.mp (List.mem_of_getElem? e)
      refine (hel j hj).imp fun _ δ1 h1 => h1.imp fun y δ3 h2 => ?_
      refine ⟨⟨l' ++ [l[j]], by rw [h2.1]; simp, ?_⟩, h2.2⟩
      rw [List.take_succ, e, List.map_append, hl']
      simp [hj]
  · rintro ys δ' ⟨⟨l', rfl, hl'⟩, rfl⟩
    rw [List.length_map, List.take_length] at hl'
    have e1 := hi.map fun j => l[j]?
    rw [← hl', range_get] at e1
    exact h l' (perm_some e1)
theorem app_inj {z : Str} {c d : Nat} (h : z ++ (⟨#[c]⟩ : Str) = z ++ ⟨#[d]⟩) : c = d := by
  have := congrArg (fun x : Str => x.cps.toList) h
  simp only [cps_app] at this
  have := List.append_cancel_left this
  simpa using this

theorem t_turned {α : Type} (f : α → Dt) {p : List Dt} {l : List α} {P : Sv → List Sv → Prop} (hp : Pool p) (hl : l.length ≤ 100) (h : ∀ (l' : List α) q, l'.Perm l → Pool q → P (.dat (.lst (l'.map f))) [.lst q]) : Wp (c__law_turned A [.lst p, .dat (.lst (l.map f))]) P := by
  unfold c__law_turned m__law_turned
  walk_at "ev"
  rw [List.length_map]
  refine t_pages (m := l.length) (n := l.length) hp (by omega) (Nat.le_refl _) fun is js q hi hil hq => ?_
  have hj : js = [] := by
    have := hi.length_eq
    simp at this
    exact List.eq_nil_of_length_eq_zero (by omega)
  subst hj
  rw [List.append_nil] at hi
  walk_at "ev"
  refine ⟨by rw [List.length_map]; omega, ?_⟩
  refine lc_pick (f := f) (l := l) hi (fun j hj => ?_) fun l' hl' => ?_
  · walk_at "ev"
    rw [atK (by rw [List.length_map]; exact hj)]
    walk_at "ev"
    simp
  walk_at "ev"
  exact h l' q hl' hq
/-! ### steps -/
structure Mv where
  a : Nat
  z : Str
  w : Bool
  b : Nat
def wayS : Bool → Str
  | true => "along"
  | false => "against"
abbrev moveD (m : Mv) : Dt := .tup [natD m.a, .str m.z, .str (wayS m.w), natD m.b]
structure MOk (n : Nat) (m : Mv) : Prop where
  a : m.a < n
  b : m.b < n
  z : Nm 1 8 m.z
theorem wayS_inj {v w : Bool} (h : wayS v = wayS w) : v = w := by
  cases v <;> cases w <;> first | rfl | (revert h; decide +kernel)
theorem moveD_inj {m n : Mv} (h : moveD m = moveD n) : m = n := by
  obtain ⟨a, z, w, b⟩ := m
  obtain ⟨a', z', w', b'⟩ := n
  simp only [moveD, Dt.tup.injEq, List.cons.injEq, Dt.int.injEq, Dt.str.injEq, and_true, Int.natCast_inj] at h
  obtain ⟨h1, h2, h3, h4⟩ := h
  rw [h1, h2, wayS_inj h3, h4]
theorem pure_moves (l : List Mv) : puresD (l.map moveD) = true := puresD_iff.mpr fun d hd => by
  obtain ⟨x, _, rfl⟩ := List.mem_map.mp hd
  rfl
structure LOk (n : Nat) (l : List Mv) : Prop where
  len : l.length ≤ 12
  six : l.length ≤ 6 ∨ l.length = 12
  nd : l.Nodup
  el : ∀ m ∈ l, MOk n m
theorem LOk.perm {n : Nat} {l l' : List Mv} (h : LOk n l) (p : l'.Perm l) : LOk n l' := ⟨by rw [p.length_eq]; exact h.len, by rw [p.length_eq]; exact h.six, p.nodup_iff.mpr h.nd, fun m hm => h.el m (p.mem_iff.mp hm)⟩
theorem t_moves {p : List Dt} {n : Nat} {ws : List Str} {P : Sv → List Sv → Prop} (hp : Pool p) (n1 : 1 ≤ n) (n3 : n ≤ 3) (hw : ws.Nodup) (hl : ws.length = 3) (hn : ∀ z ∈ ws, Nm 1 8 z) (h : ∀ (l : List Mv) q, LOk n l → l.length ≤ 6 → Pool q → P (.dat (.lst (l.map moveD))) [.lst q]) :
    Wp (c__law_moves A [.lst p, .dat (natD n), .dat (.lst (ws.map Dt.str))]) P := by
  unfold c__law_moves m__law_moves
  walk_at "ev"
  refine t_draw hp (by decide) (by decide) fun k q hk hq => ?_
  walk_at "ev"
  refine br_dec (fun _ => ?_) (fun _ => ?_)
  · walk_at "ev"
    refine ⟨by rw [List.length_map]; omega, ?_⟩
    refine lc_fn (g := fun z => moveD ⟨0, z, true, 0⟩) (fun z _ => ?_) ?_
    · walk_at "ev"
      rfl
    walk_at "ev"
    refine ⟨by rw [List.length_map]; omega, ?_⟩
    refine lc_fn (g := fun z => moveD ⟨0, z, false, 0⟩) (fun z _ => ?_) ?_
    · walk_at "ev"
      rfl
    walk_at "ev"
    refine ⟨by simp only [List.length_map]; omega, ?_⟩
    refine t_draw hq (by decide) (by decide) fun k2 q hk2 hq => ?_
    walk_at "ev"
    have e : ((ws.map fun z => moveD ⟨0, z, true, 0⟩) ++ ws.map fun z => moveD ⟨0, z, false, 0⟩) = ((ws.map fun z => (⟨0, z, true, 0⟩ : Mv)) ++ ws.map fun z => (⟨0, z, false, 0⟩ : Mv)).map moveD := by
      rw [List.map_append, List.map_map, List.map_map]
      rfl
    rw [e, cut_to _ (3 + k2) _ (by omega), ← List.map_take]
    have nd : ((ws.map fun z => (⟨0, z, true, 0⟩ : Mv)) ++ ws.map fun z => (⟨0, z, false, 0⟩ : Mv)).Nodup := by
      refine List.nodup_append.mpr ⟨hw.map _ fun a b hab w => hab (Mv.mk.inj w).2.1, hw.map _ fun a b hab w => hab (Mv.mk.inj w).2.1, fun x hx y hy e => ?_⟩
      obtain ⟨z, _, rfl⟩ := List.mem_map.mp hx
      obtain ⟨z', _, rfl⟩ := List.mem_map.mp hy
      cases e
    refine h _ q ⟨?_, .inl ?_, nd.sublist (List.take_sublist _ _), fun m hm => ?_⟩ ?_ hq
    · simp; omega
    · simp; omega
    · have hm := List.mem_of_mem_take hm
      rcases List.mem_append.mp hm with hm | hm
      · obtain ⟨z, hz, rfl⟩ := List.mem_map.mp hm
        exact ⟨n1, n1, hn z hz⟩
      · obtain ⟨z, hz, rfl⟩ := List.mem_map.mp hm
        exact ⟨n1, n1, hn z hz⟩
    · simp; omega
  · walk_at "ev"
    refine t_draw hq (by decide) (by decide) fun k2 q hk2 hq => ?_
    walk_at "go"
    refine for_at (fun i δ => ∃ (l : List Mv) (q : List Dt) (a b c d : Sv), δ = [.lst q, .dat (natD n), .dat (.lst (ws.map Dt.str)), a, .lst (l.map moveD), b, c, d, .un] ∧ l.Nodup ∧ l.length ≤ i ∧ (∀ m ∈ l, MOk n m) ∧ Pool q) ⟨[], q, _, _, _, _, rfl, List.nodup_nil, Nat.le_refl _, (fun m hm => nomatch hm), hq⟩ ?_ ?_
    · rintro i d δ hd ⟨l, q, a, b, c, e, rfl, nd, hll, hm, hq⟩
      have hi := (upto_get hd).1
      walk_at "ev"
      refine t_draw hq (by decide) (by decide) fun k q hk hq => ?_
      walk_at "ev"
      obtain ⟨v, hv⟩ : ∃ v, [Dt.str "along", Dt.str "along", Dt.str "against"][k]? = some (.str (wayS v)) := by
        have e : k = 0 ∨ k = 1 ∨ k = 2 := by omega
        rcases e with rfl | rfl | rfl
        · exact ⟨true, rfl⟩
        · exact ⟨true, rfl⟩
        · exact ⟨false, rfl⟩
      rw [atK (by simp; omega)]
      have hv' : [Dt.str "along", Dt.str "along", Dt.str "against"][k]'(by simp; omega) = .str (wayS v) := by
        rw [List.getElem?_eq_getElem (by simp; omega)] at hv
        exact Option.some.inj hv
      rw [hv']
      walk_at "ev"
      refine t_draw hq (by omega) (by have e : (2 : Int) ^ 200 > 100000 := by decide
                                      omega) fun k1 q hk1 hq => ?_
      walk_at "ev"
      rw [List.length_map]
      refine t_draw hq (by omega) (by have e : (2 : Int) ^ 200 > 100000 := by decide
                                      omega) fun k2 q hk2 hq => ?_
      walk_at "ev"
      rw [atK (by rw [List.length_map]; omega), List.getElem_map]
      walk_at "ev"
      refine t_draw hq (by omega) (by have e : (2 : Int) ^ 200 > 100000 := by decide
                                      omega) fun k3 q hk3 hq => ?_
      walk_at "ev"
      have hz : k2 < ws.length := by omega
      have mok : MOk n ⟨k1, ws[k2], v, k3⟩ := ⟨by show k1 < n; omega, by show k3 < n; omega, hn _ (List.getElem_mem hz)⟩
      refine wo_notin (x := moveD ⟨k1, ws[k2], v, k3⟩) rfl (pure_moves l) (Nat.le_trans (Nat.le_refl 1) (by decide)) fun bb hb => ?_
      walk_at "ev"
      refine br_of (fun ht => ?_) (fun hf => ?_)
      · walk_at "ev"
        exact ⟨l, q, _, _, _, _, rfl, nd, by omega, hm, hq⟩
      · walk_at "ev"
        refine ⟨by rw [List.length_map]; omega, l ++ [⟨k1, ws[k2], v, k3⟩], q, _, _, _, _, by rw [List.map_append]; rfl, ?_, by simp; omega, fun m hmm => ?_, hq⟩
        · refine List.nodup_append.mpr ⟨nd, (by simp), fun x hx y hy e => ?_⟩
          rw [List.mem_singleton.mp hy] at e
          rw [hb.mpr (List.mem_map.mpr ⟨x, hx, by rw [e]⟩)] at hf
          cases hf
        · rcases List.mem_append.mp hmm with hmm | hmm
          · exact hm m hmm
          · rw [List.mem_singleton.mp hmm]
            exact mok
    · rintro δ ⟨l, q, a, b, c, d, rfl, nd, hll, hm, hq⟩
      walk_at "ev"
      rw [upto_len] at hll
      exact h l q ⟨by omega, .inl (by omega), nd, hm⟩ (by omega) hq
end K21

set_option Elab.async false
set_option linter.all false
set_option maxRecDepth 100000
set_option maxHeartbeats 4000000
namespace K21
open PySem PySem.Spec PyProof.Rows L2 Pd Qm
local macro_rules | `(tactic| walk_at "ev") => `(tactic| simp (config := {dsimp := false}) only [↓wp_ok, ↓wp_bad, ↓wp_mC, ↓wp_var, ↓atV_dat, ↓atV_lst, ↓wp_rg, ↓wp_pk, ↓atP_dat, ↓atP_lst, rv_inl, rv_inr, svD_dat, svD_lst, ↓wp_op, ↓wp_cb, ↓wp_un, ↓atB_bl, ↓wp_mBl, ↓wp_chain, ↓wp_isN, ↓wp_and, ↓wp_or, ↓wp_not, ↓wp_andV, ↓wp_orV, ↓wp_notV, ↓wp_mIf, ↓wp_all0, ↓wp_all1, ↓wp_tup, ↓wp_lst, ↓wp_lstN, ↓wp_dv, ↓atF_dat, ↓atF_lst, ↓wp_fz, ↓atO_int, ↓wp_part0, ↓wp_part1, ↓wp_sl, ↓wp_fld, ↓wp_tgN, ↓wp_tgT, ↓wp_tgNil, ↓wp_tgCons, ↓seqK_nx, ↓seqK_rt, ↓seqK_bk, ↓seqK_ct, ↓wp_seq, ↓wp_nx, ↓wp_bk, ↓wp_ct, ↓wp_ret, ↓wp_retO, ↓wp_retN, ↓wp_drop, ↓wp_asg, ↓wp_asgO, ↓wp_asgT, ↓wp_par, ↓wp_par3, ↓atL_lst, ↓wp_app, ↓atI2_int, ↓wp_pop, ↓wp_tgSub, isL_lst, ↓wp_call, ↓wp_ags0, ↓wp_agsE, ↓wp_agsI, isOwn_lst, pick0, pickE, pickI, back0, backN, backX, backI, kindE, kindI, List.map_cons, List.map_nil, ↓fnK_rt, ↓fnK_nx, ↓wp_fn, ↓wp_for, ↓rndK_nx, ↓rndK_ct, ↓rndK_bk, ↓rndK_rt, ↓forK_nx, ↓forK_ct, ↓forK_bk, ↓forK_rt, ↓for0, ↓wp_iter, ↓wp_rng1, ↓wp_rng2, ↓atS_tup, ↓atS_lst, ↓wp_enum, ↓wp_lc, ↓wp_lcD, ↓wp_lcO, ↓wp_yes, ↓lc0, ↓wp_lrng, ↓wp_trng, ↓wp_lrngO, ↓wp_lstOf, ↓atX_ok, ↓wp_make, ↓wp_makeK, ↓atJ_ins, ↓wp_fldSet, ↓wp_meth, ↓atStr_str, ↓wp_js0, ↓wp_js1, ↓wp_fstr, ↓wp_join, ↓wp_cons, ↓wp_star, ↓wp_app2, ↓wp_opE, ↓atD_dat, ↓wp_U, ↓atOb_obj, ↓wp_UM, ↓wp_UI, ↓wo_arrP, ↓wo_arrS, ↓wo_arrPS, itemsD, wo_some, ↓wo_ite, ↓wo_map, ↓br_t, ↓br_f, ↓br_not, Qm.addD, subD, mulD, modD, divD, powD, ltD, leD, gtD, geD, Qm.intD, absD, lenD, maxD, minD, tupD, lstD, dmD, negD, seqD, isN, rngD, ixD_lst, ixD_tup, ixD_scr, slD, atI_0, atI_1, atI_2, atI_3, atI_4, atI_5, atI_6, atI_7, atI_8, atI_9, atI_10, atI_11, atI_12, ixN_30, ixN_31, ixN_32,
  List.getElem?_cons_zero, List.getElem?_cons_succ, List.set_cons_zero, List.set_cons_succ, List.getD_cons_zero, List.getD_cons_succ, List.cons_append, List.nil_append, List.replicate_succ, List.replicate_zero, List.take_succ_cons, List.take_zero, List.drop_succ_cons, List.drop_zero, List.append_nil, Nat.reduceEqDiff, Int.cast_ofNat_Int, List.length_cons, List.length_nil, wipeS, restS, lightS, Sv.light, List.all_cons, List.all_nil, Bool.and_true, Bool.and_self, true_and, and_true, and_self, Bool.not_true, Bool.not_false, Nat.reduceSub, Nat.reduceAdd, Nat.reduceLeDiff, Nat.zero_add, Int.reduceLT, Int.reduceLE, Int.reduceAdd, Int.reduceSub, Int.reduceMul, Int.reduceNeg, Int.reducePow, Int.reduceToNat, Nat.reducePow, eqD_int, neD_int, Int.reduceEq, ↓reduceIte, if_true, if_false, Bool.false_eq_true, gt_iff_lt, ge_iff_le, decide_true, decide_false])
local macro_rules | `(tactic| walk_at "sd") => `(tactic| first | omega | exact cdiv_lit (by decide) (by decide) | exact cpow_lit (by decide) (by decide) (by decide) | exact cmul_r (by omega) (by omega) | exact cmul_l (by omega) (by omega))
local macro_rules | `(tactic| walk_at "go") => `(tactic| (walk_at "ev"; repeat ((with_reducible refine And.intro ?_ ?_); (· walk_at "sd"); try walk_at "ev")))

variable {A : Ca}
theorem t_is_integer {x : Int} {P : Sv → List Sv → Prop} (h : P (.dat (.bl true)) []) : Wp (c_is_integer A [.dat (.int x)]) P := by
  unfold c_is_integer m_is_integer
  walk_at "ev"
  rw [isi_int]
  walk_at "ev"
  rw [isi_intb]
  walk_at "ev"
  exact h
theorem t_is_number {x a b : Int} {P : Sv → List Sv → Prop} (h1 : a ≤ x) (h2 : x ≤ b) (h : P (.dat (.bl true)) []) : Wp (c_is_number A [.dat (.int x), .dat (.int a), .dat (.int b)]) P := by
  unfold c_is_number m_is_number
  walk_at "ev"
  refine t_is_integer ?_
  walk_at "ev"
  rw [decide_eq_true h1]
  walk_at "ev"
  rw [decide_eq_true h2]
  exact h
theorem t_is_row {ds : List Dt} {n : Nat} {P : Sv → List Sv → Prop} (hn : ds.length = n) (h : P (.dat (.bl true)) []) : Wp (c_is_row A [.dat (.tup ds), .dat (.int n)]) P := by
  unfold c_is_row m_is_row
  walk_at "ev"
  rw [isi_tup]
  walk_at "ev"
  rw [decide_eq_true (by rw [hn])]
  exact h
theorem not_before {α β : Type} {f : α → β} {S : List α} {i : Nat} {s y : α} (hn : (S.map f).Nodup) (e : S[i]? = some s) (hy : y ∈ S.take i) (h : f y = f s) : False := by
  obtain ⟨j, hj, e2⟩ := List.getElem_of_mem hy
  have hj' := hj
  rw [List.length_take] at hj
  have e3 : S[j]? = some y := by
    have := List.getElem?_eq_getElem hj'
    rw [e2, List.getElem?_take_of_lt (by omega)] at this
    exact this
  have q := (List.getElem?_inj (i := j) (j := i) (by simp; omega) hn).mp (by rw [List.getElem?_map, List.getElem?_map, e3, e]; simp [h])
  omega

theorem isi_strT {tb : Addr → V → Option Bool} {cs : List Addr} {z : Str} : isiD tb cs (.str z) (.raw (.ty "str")) = some (.bl true) := isi_str
theorem t_is_step {n : Nat} {m : Mv} {P : Sv → List Sv → Prop} (hm : MOk n m) (h : P (.dat (.bl true)) []) : Wp (c_is_step A [.dat (natD n), .dat (moveD m)]) P := by
  have ha := hm.a
  have hb := hm.b
  unfold c_is_step m_is_step
  walk_at "ev"
  refine t_is_row (n := 4) rfl ?_
  walk_at "ev"
  refine t_is_name hm.z ?_
  walk_at "ev"
  rw [isi_str]
  walk_at "ev"
  refine t_is_number (by omega) (by omega) ?_
  walk_at "ev"
  refine t_is_number (by omega) (by omega) ?_
  walk_at "ev"
  refine wo_inT rfl rfl (Nat.zero_le _) fun b hb => ?_
  have e : b = true := hb.mpr (by cases m.w <;> simp [wayS])
  rw [e]
  walk_at "ev"
  exact h
theorem t_check_steps {n : Nat} {l : List Mv} {P : Sv → List Sv → Prop} (hl : l.length ≤ 12) (nd : l.Nodup) (hm : ∀ m ∈ l, MOk n m) (h : P (.dat .non) []) : Wp (c_check_steps A [.dat (natD n), .dat (.tup (l.map moveD))]) P := by
  unfold c_check_steps m_check_steps
  walk_at "ev"
  refine br_dec (fun z => ?_) (fun _ => ?_)
  · rw [List.length_map] at z
    omega
  walk_at "ev"
  refine for_at (fun i δ => ∃ a b, δ = [.dat (natD n), .dat (.tup (l.map moveD)), .lst ((l.take i).map moveD), a, b]) ⟨.un, .un, rfl⟩ ?_ ?_
  · rintro i d δ hd ⟨a, b, rfl⟩
    obtain ⟨x, hx, rfl⟩ := enumD_get hd
    rw [List.getElem?_map] at hx
    cases e : l[i]? with
    | none => rw [e] at hx; cases hx
    | some m =>
      rw [e] at hx
      cases hx
      walk_at "ev"
      refine t_is_step (hm m (List.mem_of_getElem? e)) ?_
      walk_at "ev"
      refine wo_in (x := moveD m) rfl (pure_moves _) (Nat.le_trans (Nat.le_refl 1) (by decide)) fun bb hb => ?_
      have hbf : bb = false := by
        cases bb with
        | false => rfl
        | true =>
          obtain ⟨y, hy, e2⟩ := List.mem_map.mp (hb.mp rfl)
          exact (not_before (f := id) (by simpa using nd) e hy (moveD_inj e2)).elim
      rw [hbf]
      walk_at "ev"
      refine ⟨by rw [List.length_map, List.length_take]; omega, .dat (.int i), .dat (moveD m), ?_⟩
      rw [List.take_succ, e]
      simp
  · rintro δ ⟨a, b, rfl⟩
    walk_at "ev"
    exact h
/-! sorted -/
theorem py_move (m : Mv) : pyD (moveD m) = .tuple [.int m.a, .str m.z, .str (wayS m.w), .int m.b] := by
  rw [pyD_tup (by rfl)]
  rfl
open PySem.W in
theorem srt_move (l : List Mv) : (srtL moveD l).Perm l ∧ sortA (.lst (l.map moveD)) = some (.lst ((srtL moveD l).map moveD)) ∧ sortA (.tup (l.map moveD)) = some (.lst ((srtL moveD l).map moveD)) := by
  refine srt_map (fun x _ => rfl) (fun d hd d' hd' => ?_) (.inl fun d hd => ?_) fun x _ => Nat.le_trans (Nat.le_refl 1) (by decide)
  · rw [List.map_map] at hd hd'
    obtain ⟨x, _, rfl⟩ := List.mem_map.mp hd
    obtain ⟨y, _, rfl⟩ := List.mem_map.mp hd'
    rfl
  · rw [List.map_map] at hd
    obtain ⟨x, _, rfl⟩ := List.mem_map.mp hd
    exact ⟨_, _, py_move x⟩
theorem move_inj (a b : Mv) (h : PySem.W.keyToks (pyD (moveD a)) = PySem.W.keyToks (pyD (moveD b))) : a = b := by
  rw [py_move, py_move] at h
  obtain ⟨a1, a2, a3, a4⟩ := a
  obtain ⟨b1, b2, b3, b4⟩ := b
  simp only [PySem.W.keyToks, PySem.W.keyToksAll, List.cons_append, List.nil_append, List.cons.injEq, Sum.inl.injEq, Sum.inr.injEq, true_and, and_true] at h
  obtain ⟨h1, h2, h3, h4⟩ := h
  have e1 : a1 = b1 := by omega
  have e4 : a4 = b4 := by omega
  rw [e1, e4, PySem.W.str_of_cps h2, wayS_inj (PySem.W.str_of_cps h3)]
/-- the steps, ascending -/
noncomputable def asc (l : List Mv) : List Mv := srtL moveD l
theorem asc_perm (l : List Mv) : (asc l).Perm l := (srt_move l).1
theorem asc_len (l : List Mv) : (asc l).length = l.length := (asc_perm l).length_eq
theorem asc_same {l m : List Mv} (h : l.Perm m) : (asc l).map moveD = (asc m).map moveD := sortA_same move_inj h (srt_move l).2.1 (srt_move m).2.1
noncomputable def flds (n : Nat) (l : List Mv) : List (Str × Dt) := [("states", natD n), ("steps", .tup ((asc l).map moveD))]
noncomputable def wk (A : Ca) (n : Nat) (l : List Mv) : Dt := .obj A.Walk (flds n l)
theorem wk_same {n : Nat} {l m : List Mv} (h : l.Perm m) : wk A n l = wk A n m := by
  unfold wk flds
  rw [asc_same h]
theorem t_init {n : Nat} {l : List Mv} {P : Sv → List Sv → Prop} (n1 : 1 ≤ n) (n3 : n ≤ 3) (hl : l.length ≤ 12) (nd : l.Nodup) (hm : ∀ m ∈ l, MOk n m) (h : P (.dat .non) [.ins A.Walk (flds n l)]) : Wp (c_Walk___init__ A [.ins A.Walk [], .dat (natD n), .dat (.tup (l.map moveD))]) P := by
  have hC : [A.Walk].contains A.Walk = true := by simp
  have hne : ("states" : Str) ≠ "steps" := by decide +kernel
  unfold c_Walk___init__ m_Walk___init__
  walk_at "ev"
  refine t_is_number (by omega) (by omega) ?_
  walk_at "ev"
  refine t_check_steps hl nd hm ?_
  walk_at "ev"
  refine ⟨⟨hC, by decide⟩, ?_⟩
  rw [(srt_move l).2.2]
  walk_at "ev"
  refine ⟨⟨hC, ?_⟩, ?_⟩
  · simp [putD]
  · simp only [putD, if_neg hne]
    exact h
theorem t_walk {n : Nat} {l : List Mv} {P : Sv → List Sv → Prop} (n1 : 1 ≤ n) (n3 : n ≤ 3) (hl : l.length ≤ 6) (nd : l.Nodup) (hm : ∀ m ∈ l, MOk n m) (h : P (.dat (wk A n l)) []) : Wp (c__law_walk A [.dat (natD n), .dat (.lst (l.map moveD))]) P := by
  unfold c__law_walk m__law_walk
  rcases l with _ | ⟨a, _ | ⟨b, _ | ⟨c, _ | ⟨d, _ | ⟨e, _ | ⟨f, _ | ⟨g, r⟩⟩⟩⟩⟩⟩⟩
  · walk_at "ev"
    refine t_init (l := []) n1 n3 (by simp) nd hm ?_
    walk_at "ev"
    exact h
  · walk_at "ev"
    refine t_init (l := [a]) n1 n3 (by simp) nd hm ?_
    walk_at "ev"
    exact h
  · walk_at "ev"
    refine t_init (l := [a, b]) n1 n3 (by simp) nd hm ?_
    walk_at "ev"
    exact h
  · walk_at "ev"
    refine t_init (l := [a, b, c]) n1 n3 (by simp) nd hm ?_
    walk_at "ev"
    exact h
  · walk_at "ev"
    refine t_init (l := [a, b, c, d]) n1 n3 (by simp) nd hm ?_
    walk_at "ev"
    exact h
  · walk_at "ev"
    refine t_init (l := [a, b, c, d, e]) n1 n3 (by simp) nd hm ?_
    walk_at "ev"
    exact h
  · walk_at "ev"
    refine t_init (l := [a, b, c, d, e, f]) n1 n3 (by simp) nd hm ?_
    walk_at "ev"
    exact h
  · simp at hl
end K21

set_option Elab.async false
set_option linter.all false
set_option maxRecDepth 100000
set_option maxHeartbeats 4000000
namespace K21
open PySem PySem.Spec PyProof.Rows L2 Pd Qm
local macro_rules | `(tactic| walk_at "ev") => `(tactic| simp (config := {dsimp := false}) only [↓wp_ok, ↓wp_bad, ↓wp_mC, ↓wp_var, ↓atV_dat, ↓atV_lst, ↓wp_rg, ↓wp_pk, ↓atP_dat, ↓atP_lst, rv_inl, rv_inr, svD_dat, svD_lst, ↓wp_op, ↓wp_cb, ↓wp_un, ↓atB_bl, ↓wp_mBl, ↓wp_chain, ↓wp_isN, ↓wp_and, ↓wp_or, ↓wp_not, ↓wp_andV, ↓wp_orV, ↓wp_notV, ↓wp_mIf, ↓wp_all0, ↓wp_all1, ↓wp_tup, ↓wp_lst, ↓wp_lstN, ↓wp_dv, ↓atF_dat, ↓atF_lst, ↓wp_fz, ↓atO_int, ↓wp_part0, ↓wp_part1, ↓wp_sl, ↓wp_fld, ↓wp_tgN, ↓wp_tgT, ↓wp_tgNil, ↓wp_tgCons, ↓seqK_nx, ↓seqK_rt, ↓seqK_bk, ↓seqK_ct, ↓wp_seq, ↓wp_nx, ↓wp_bk, ↓wp_ct, ↓wp_ret, ↓wp_retO, ↓wp_retN, ↓wp_drop, ↓wp_asg, ↓wp_asgO, ↓wp_asgT, ↓wp_par, ↓wp_par3, ↓atL_lst, ↓wp_app, ↓atI2_int, ↓wp_pop, ↓wp_tgSub, isL_lst, ↓wp_call, ↓wp_ags0, ↓wp_agsE, ↓wp_agsI, isOwn_lst, pick0, pickE, pickI, back0, backN, backX, backI, kindE, kindI, List.map_cons, List.map_nil, ↓fnK_rt, ↓fnK_nx, ↓wp_fn, ↓wp_for, ↓rndK_nx, ↓rndK_ct, ↓rndK_bk, ↓rndK_rt, ↓forK_nx, ↓forK_ct, ↓forK_bk, ↓forK_rt, ↓for0, ↓wp_iter, ↓wp_rng1, ↓wp_rng2, ↓atS_tup, ↓atS_lst, ↓wp_enum, ↓wp_lc, ↓wp_lcD, ↓wp_lcO, ↓wp_yes, ↓lc0, ↓wp_lrng, ↓wp_trng, ↓wp_lrngO, ↓wp_lstOf, ↓atX_ok, ↓wp_make, ↓wp_makeK, ↓atJ_ins, ↓wp_fldSet, ↓wp_meth, ↓atStr_str, ↓wp_js0, ↓wp_js1, ↓wp_fstr, ↓wp_join, ↓wp_cons, ↓wp_star, ↓wp_app2, ↓wp_opE, ↓atD_dat, ↓wp_U, ↓atOb_obj, ↓wp_UM, ↓wp_UI, ↓wo_arrP, ↓wo_arrS, ↓wo_arrPS, itemsD, wo_some, ↓wo_ite, ↓wo_map, ↓br_t, ↓br_f, ↓br_not, Qm.addD, subD, mulD, modD, divD, powD, ltD, leD, gtD, geD, Qm.intD, absD, lenD, maxD, minD, tupD, lstD, dmD, negD, seqD, isN, rngD, ixD_lst, ixD_tup, ixD_scr, slD, atI_0, atI_1, atI_2, atI_3, atI_4, atI_5, atI_6, atI_7, atI_8, atI_9, atI_10, atI_11, atI_12, ixN_30, ixN_31, ixN_32,
  List.getElem?_cons_zero, List.getElem?_cons_succ, List.set_cons_zero, List.set_cons_succ, List.getD_cons_zero, List.getD_cons_succ, List.cons_append, List.nil_append, List.replicate_succ, List.replicate_zero, List.take_succ_cons, List.take_zero, List.drop_succ_cons, List.drop_zero, List.append_nil, Nat.reduceEqDiff, Int.cast_ofNat_Int, List.length_cons, List.length_nil, wipeS, restS, lightS, Sv.light, List.all_cons, List.all_nil, Bool.and_true, Bool.and_self, true_and, and_true, and_self, Bool.not_true, Bool.not_false, Nat.reduceSub, Nat.reduceAdd, Nat.reduceLeDiff, Nat.zero_add, Int.reduceLT, Int.reduceLE, Int.reduceAdd, Int.reduceSub, Int.reduceMul, Int.reduceNeg, Int.reducePow, Int.reduceToNat, Nat.reducePow, eqD_int, neD_int, Int.reduceEq, ↓reduceIte, if_true, if_false, Bool.false_eq_true, gt_iff_lt, ge_iff_le, decide_true, decide_false])
local macro_rules | `(tactic| walk_at "sd") => `(tactic| first | omega | exact cdiv_lit (by decide) (by decide) | exact cpow_lit (by decide) (by decide) (by decide) | exact cmul_r (by omega) (by omega) | exact cmul_l (by omega) (by omega))
local macro_rules | `(tactic| walk_at "go") => `(tactic| (walk_at "ev"; repeat ((with_reducible refine And.intro ?_ ?_); (· walk_at "sd"); try walk_at "ev")))

variable {A : Ca}
theorem t_rule {n : Nat} {l : List Mv} {P : Sv → List Sv → Prop} (n1 : 1 ≤ n) (n3 : n ≤ 3) (hl : LOk n l) (h : P (.dat (wk A n l)) []) : Wp (c__law_rule A [.dat (natD n), .dat (.lst (l.map moveD))]) P := by
  unfold c__law_rule m__law_rule
  walk_at "ev"
  refine br_dec (fun hh => ?_) (fun hh => ?_)
  · rw [List.length_map] at hh
    walk_at "ev"
    refine t_walk n1 n3 (by have := hl.six; omega) hl.nd hl.el ?_
    walk_at "ev"
    exact h
  · rw [List.length_map] at hh
    have h12 : l.length = 12 := by have := hl.six; omega
    rcases l with _ | ⟨a, _ | ⟨b, _ | ⟨c, _ | ⟨d, _ | ⟨e, _ | ⟨f, _ | ⟨g, _ | ⟨i, _ | ⟨j, _ | ⟨k, _ | ⟨m, _ | ⟨o, _ | ⟨r, s⟩⟩⟩⟩⟩⟩⟩⟩⟩⟩⟩⟩⟩
    case cons.cons.cons.cons.cons.cons.cons.cons.cons.cons.cons.cons.nil =>
      walk_at "ev"
      refine t_init (l := [a, b, c, d, e, f, g, i, j, k, m, o]) n1 n3 (by simp) hl.nd hl.el ?_
      walk_at "ev"
      exact h
    all_goals simp at h12
theorem isObj_wk {n : Nat} {l : List Mv} : Qm.isObj A.Walk (wk A n l) = true := by
  unfold Qm.isObj wk
  simp
theorem fld_states {n : Nat} {l : List Mv} : fldD [A.Walk] "states" (wk A n l) = some (natD n) := by
  unfold fldD wk flds
  simp only [List.contains_cons, BEq.rfl, Bool.true_or, if_true]
  simp only [List.lookup, BEq.rfl]
theorem fld_steps {n : Nat} {l : List Mv} : fldD [A.Walk] "steps" (wk A n l) = some (.tup ((asc l).map moveD)) := by
  unfold fldD wk flds
  simp only [List.contains_cons, BEq.rfl, Bool.true_or, if_true]
  have n1 : (("steps" : Str) == "states") = false := by decide +kernel
  simp only [List.lookup, n1, BEq.rfl]
theorem t_len {n : Nat} {l : List Mv} {P : Sv → List Sv → Prop} (h : P (.dat (.int l.length)) []) : Wp (c_Walk___len__ A [.dat (wk A n l)]) P := by
  unfold c_Walk___len__ m_Walk___len__
  walk_at "ev"
  rw [fld_steps]
  walk_at "ev"
  rw [List.length_map, asc_len]
  exact h
theorem len_wk {n : Nat} {l : List Mv} (hl : l.length ≤ 12) : lenO A.Walk (c_Walk___len__ A) (wk A n l) = some (.int l.length) ∧ boolL A.Walk (c_Walk___len__ A) (wk A n l) = some (.bl (decide (l.length ≠ 0))) := by
  obtain ⟨s, o, e, rfl, rfl⟩ := (t_len (A := A) (n := n) (l := l) (P := fun s o => s = .dat (.int l.length) ∧ o = []) ⟨rfl, rfl⟩).get
  have ea : ansD (c_Walk___len__ A) [wk A n l] = some (.int l.length) := by
    unfold ansD
    rw [show ([wk A n l].map Sv.dat) = [.dat (wk A n l)] from rfl, e]
  unfold lenO boolL
  rw [if_pos isObj_wk, if_pos isObj_wk, ea]
  simp only
  rw [if_pos (by omega), if_pos (by omega)]
  refine ⟨rfl, ?_⟩
  congr 2
  exact decide_eq_decide.mpr (by omega)
/-- what a rule shows of itself -/
def text (n k : Nat) : Str := ("Walk(" : Str) ++ Str.ofString (toString (n : Int)) ++ " states, " ++ Str.ofString (toString (k : Int)) ++ " steps)"
theorem tx {k : Nat} (h : k ≤ 100) : (Str.ofString (toString (k : Int))).length ≤ 100 ∧ fmtD (natD k) = some (.str (toString (k : Int))) ∧ strD (natD k) = some (.str (toString (k : Int))) := by
  have hl := log_small (x := (k : Int)) (by omega) (by omega)
  refine ⟨?_, ?_, ?_⟩
  · have := PySem.int_text_length_le (a := (k : Int)) (k := 64) (by decide) hl
    rw [PySem.ofString_length]
    omega
  · show (if (k : Int).natAbs.log2 < 1920 then _ else _) = _
    rw [if_pos (by omega)]
  · show (if (k : Int).natAbs.log2 < 1920 then _ else _) = _
    rw [if_pos (by omega)]
theorem e5 : ("Walk(" : Str).length = 5 := by decide +kernel
theorem e9 : (" states, " : Str).length = 9 := by decide +kernel
theorem e7 : (" steps)" : Str).length = 7 := by decide +kernel
theorem t_repr {n : Nat} {l : List Mv} {P : Sv → List Sv → Prop} (n3 : n ≤ 3) (hl : l.length ≤ 12) (h : P (.dat (.str (text n l.length))) []) : Wp (c_Walk___repr__ A [.dat (wk A n l)]) P := by
  unfold c_Walk___repr__ m_Walk___repr__
  obtain ⟨a1, a2, _⟩ := tx (k := n) (by omega)
  obtain ⟨b1, b2, _⟩ := tx (k := l.length) (by omega)
  have e0 : Str.empty ++ ("Walk(" : Str) = "Walk(" := by decide +kernel
  have := e5
  have := e9
  have := e7
  walk_at "ev"
  rw [fld_states, e0]
  refine ⟨by omega, ?_⟩
  walk_at "ev"
  rw [a2]
  walk_at "ev"
  refine ⟨by rw [slen_app]; omega, ?_⟩
  refine ⟨by rw [slen_app, slen_app]; omega, ?_⟩
  rw [fld_steps]
  walk_at "ev"
  rw [List.length_map, asc_len, b2]
  walk_at "ev"
  refine ⟨by rw [slen_app, slen_app, slen_app]; omega, ?_⟩
  refine ⟨by rw [slen_app, slen_app, slen_app, slen_app]; omega, ?_⟩
  exact h
theorem text_len {n k : Nat} (h : n ≤ 3) (hk : k ≤ 12) : (text n k).length ≤ 300 := by
  obtain ⟨a1, _, _⟩ := tx (k := n) (by omega)
  obtain ⟨b1, _, _⟩ := tx (k := k) (by omega)
  have := e5
  have := e9
  have := e7
  unfold text
  rw [slen_app, slen_app, slen_app, slen_app]
  omega
theorem text_okB : ((List.range 4).all fun n => (List.range 13).all fun k => PyData.strOk (text n k)) = true := by decide +kernel
theorem text_ok {n k : Nat} (h : n ≤ 3) (hk : k ≤ 12) : PyData.strOk (text n k) = true := by
  have := List.all_eq_true.mp text_okB n (List.mem_range.mpr (by omega))
  exact List.all_eq_true.mp this k (List.mem_range.mpr (by omega))
theorem repr_wk {n : Nat} {l : List Mv} (n3 : n ≤ 3) (hl : l.length ≤ 12) : reprO A.Walk (c_Walk___repr__ A) (wk A n l) = some (.str (text n l.length)) := by
  obtain ⟨s, o, e, rfl, rfl⟩ := (t_repr (A := A) (n := n) (l := l) (P := fun s o => s = .dat (.str (text n l.length)) ∧ o = []) n3 hl ⟨rfl, rfl⟩).get
  unfold reprO
  rw [if_pos isObj_wk]
  unfold ansD
  rw [show ([wk A n l].map Sv.dat) = [.dat (wk A n l)] from rfl, e]
theorem nic_moves {n : Nat} {l : List Mv} (n3 : n ≤ 3) (hl : l.length ≤ 12) (hm : ∀ m ∈ l, MOk n m) : Nic 3000 2 (.tup (l.map moveD)) := by
  refine nic_tup ((nics_map (n := 200) (k := 1) fun m hx => ?_).mono (by omega) (Nat.le_refl _))
  have h := hm m hx
  have h1 := h.a
  have h2 := h.b
  have hw : PyData.strOk (wayS m.w) = true ∧ (wayS m.w).length ≤ 10 := by cases m.w <;> decide +kernel
  exact nic_tup ((nics_cons (nic_nat (by omega)) (nics_cons (nic_str h.z.strOk h.z.hi) (nics_cons (nic_str hw.1 hw.2) (nics_cons (nic_nat (by omega)) nics_nil)))).mono (by decide) (Nat.le_refl _))
theorem told {n : Nat} {l : List Mv} {b : Bool} (n3 : n ≤ 3) (hl : l.length ≤ 12) (hm : ∀ m ∈ l, MOk n m) : ∃ z, reprD (.lst [natD n, .tup ((asc l).map moveD), .int l.length, .str (text n l.length), .bl b]) = some (.str z) := by
  have h2 := nic_moves (l := asc l) n3 (by rw [asc_len]; exact hl) fun m hx => hm m ((asc_perm l).mem_iff.mp hx)
  refine repr_nic (n := 10000) (k := 3) (nic_lst ((nics_cons ((nic_nat (by omega)).mono (Nat.le_refl _) (by decide)) (nics_cons h2 (nics_cons ((nic_nat (x := l.length) (by omega)).mono (Nat.le_refl _) (by decide)) (nics_cons ((nic_str (text_ok n3 hl) (text_len n3 hl)).mono (Nat.le_refl _) (by decide)) (nics_cons (nic_bl.mono (Nat.le_refl _) (by decide)) nics_nil))))).mono (by decide) (Nat.le_refl _))) (by decide) (by decide)
theorem pure_of (l : List Mv) : pureD (.lst (l.map moveD)) = true := pure_moves l
theorem pure_ofT (l : List Mv) : pureD (.tup (l.map moveD)) = true := pure_moves l
theorem deps_of (l : List Mv) : depsD (l.map moveD) ≤ 1 := depsD_le fun d hd => by
  obtain ⟨x, _, rfl⟩ := List.mem_map.mp hd
  exact Nat.le_refl 1
theorem dep_of (l : List Mv) : depD (.lst (l.map moveD)) ≤ 60 := by
  have := deps_of l
  show depsD _ + 1 ≤ 60
  omega
theorem dep_ofT (l : List Mv) : depD (.tup (l.map moveD)) ≤ 60 := by
  have := deps_of l
  show depsD _ + 1 ≤ 60
  omega
theorem t_shown {n : Nat} {l m : List Mv} {P : Sv → List Sv → Prop} (n3 : n ≤ 3) (hp : l.Perm m) (hl : m.length ≤ 12) (hm : ∀ x ∈ m, MOk n x) (h : P (.dat (.bl true)) []) : Wp (c__law_shown A [.dat (wk A n l), .dat (natD n), .dat (.lst (m.map moveD))]) P := by
  rw [wk_same hp]
  obtain ⟨a1, _, a3⟩ := tx (k := n) (by omega)
  obtain ⟨b1, _, b3⟩ := tx (k := m.length) (by omega)
  have := e5
  have := e9
  have := e7
  unfold c__law_shown m__law_shown
  walk_at "ev"
  rw [a3]
  walk_at "ev"
  refine ⟨by omega, ?_⟩
  refine ⟨by rw [slen_app]; omega, ?_⟩
  rw [List.length_map, b3]
  walk_at "ev"
  refine ⟨by rw [slen_app, slen_app]; omega, ?_⟩
  refine ⟨by rw [slen_app, slen_app, slen_app]; omega, ?_⟩
  rw [(srt_move m).2.1]
  walk_at "ev"
  rw [List.length_map]
  refine wo_ne (pure_of m) rfl (dep_of m) fun b hb => ?_
  have eb : (!b) = decide (m.length ≠ 0) := by
    rw [Bool.eq_iff_iff, decide_eq_true_iff, Bool.not_eq_true', ← Bool.not_eq_true, hb]
    cases m <;> simp
  rw [eb]
  walk_at "ev"
  rw [fld_states]
  walk_at "ev"
  rw [fld_steps]
  walk_at "ev"
  rw [(len_wk hl).1]
  walk_at "ev"
  rw [repr_wk n3 hl]
  walk_at "ev"
  rw [(len_wk hl).2]
  obtain ⟨z, hz⟩ := told (b := decide (m.length ≠ 0)) n3 hl hm
  walk_at "ev"
  rw [hz]
  walk_at "ev"
  show Qm.Wo (reprD (.lst [natD n, .tup ((asc m).map moveD), .int m.length, .str (text n m.length), .bl (decide (m.length ≠ 0))])) _
  rw [hz]
  walk_at "ev"
  refine wo_eq rfl rfl (Nat.zero_le _) fun b hb => ?_
  rw [show b = true from hb.mpr rfl]
  exact h
/-! ### equality -/
theorem isi_wk {n : Nat} {l : List Mv} : isiD (tb A) (csl A) (wk A n l) (.raw (.ref A.Walk)) = some (.bl true) := by
  unfold isiD wk tb tbOf csl
  simp [tyD]
theorem isi_no {d : Dt} {t : String} (h : tyD d = some t) : isiD (tb A) (csl A) d (.raw (.ref A.Walk)) = some (.bl false) := by
  unfold isiD
  simp only [h]
  rw [if_pos (by simp [csl])]
theorem t_eq {n1 n2 : Nat} {l1 l2 : List Mv} {P : Sv → List Sv → Prop} (h : ∀ b, (b = true ↔ n1 = n2 ∧ (asc l1).map moveD = (asc l2).map moveD) → P (.dat (.bl b)) []) : Wp (c_Walk___eq__ A [.dat (wk A n1 l1), .dat (wk A n2 l2)]) P := by
  unfold c_Walk___eq__ m_Walk___eq__
  walk_at "ev"
  rw [isi_wk]
  walk_at "ev"
  rw [fld_states]
  walk_at "ev"
  rw [fld_states]
  walk_at "ev"
  refine br_dec (fun hm => ?_) (fun hm => ?_)
  · walk_at "ev"
    rw [fld_steps]
    walk_at "ev"
    rw [fld_steps]
    walk_at "ev"
    refine wo_eq (pure_ofT _) (pure_ofT _) (dep_ofT _) fun b hb => ?_
    refine h b (hb.trans ⟨fun q => ⟨by omega, Dt.tup.inj q⟩, fun q => congrArg Dt.tup q.2⟩)
  · refine h false ⟨fun z => (by cases z), fun q => ?_⟩
    exact (hm (by rw [q.1])).elim
theorem t_eqNo {n : Nat} {l : List Mv} {d : Dt} {t : String} {P : Sv → List Sv → Prop} (ht : tyD d = some t) (h : P (.dat (.bl false)) []) : Wp (c_Walk___eq__ A [.dat (wk A n l), .dat d]) P := by
  unfold c_Walk___eq__ m_Walk___eq__
  walk_at "ev"
  rw [isi_no ht]
  walk_at "ev"
  exact h
theorem eqBo_wk {n1 n2 : Nat} {l1 l2 : List Mv} : ∃ b, eqBo A.Walk (c_Walk___eq__ A) (wk A n1 l1) (wk A n2 l2) = some b ∧ (b = true ↔ n1 = n2 ∧ (asc l1).map moveD = (asc l2).map moveD) := by
  obtain ⟨s, o, e, b, rfl, rfl, hb⟩ := (t_eq (A := A) (n1 := n1) (n2 := n2) (l1 := l1) (l2 := l2) (P := fun s o => ∃ b, s = .dat (.bl b) ∧ o = [] ∧ (b = true ↔ n1 = n2 ∧ (asc l1).map moveD = (asc l2).map moveD)) fun b hb => ⟨b, rfl, rfl, hb⟩).get
  refine ⟨b, ?_, hb⟩
  unfold eqBo
  rw [if_pos isObj_wk, if_pos (.inl isObj_wk)]
  unfold ansB ansD
  rw [show ([wk A n1 l1, wk A n2 l2].map Sv.dat) = [.dat (wk A n1 l1), .dat (wk A n2 l2)] from rfl, e]
theorem eqBo_no {n : Nat} {l : List Mv} {d : Dt} {t : String} (ht : tyD d = some t) (hd : d = .non ∨ (∃ i, d = .int i) ∨ (∃ b, d = .bl b) ∨ (∃ z, d = .str z) ∨ ∃ ds, d = .tup ds) :
    eqBo A.Walk (c_Walk___eq__ A) (wk A n l) d = some false ∧ eqBo A.Walk (c_Walk___eq__ A) d (wk A n l) = some false := by
  obtain ⟨s, o, e, rfl, rfl⟩ := (t_eqNo (A := A) (n := n) (l := l) (d := d) (P := fun s o => s = .dat (.bl false) ∧ o = []) ht ⟨rfl, rfl⟩).get
  have ea : ansB (c_Walk___eq__ A) [wk A n l, d] = some false := by
    unfold ansB ansD
    rw [show ([wk A n l, d].map Sv.dat) = [.dat (wk A n l), .dat d] from rfl, e]
  have hl : ∀ ds, d ≠ .lst ds := fun ds z => by
    subst z
    rcases hd with q | ⟨_, q⟩ | ⟨_, q⟩ | ⟨_, q⟩ | ⟨_, q⟩ <;> cases q
  have ho : Qm.isObj A.Walk d = false := by
    rcases hd with rfl | ⟨_, rfl⟩ | ⟨_, rfl⟩ | ⟨_, rfl⟩ | ⟨_, rfl⟩ <;> rfl
  refine ⟨?_, ?_⟩
  · unfold eqBo
    rw [if_pos isObj_wk, if_pos (.inr ⟨by rw [ht]; rfl, hl⟩), ea]
  · unfold eqBo
    rw [if_neg (by rw [ho]; decide), if_pos isObj_wk]
    rcases hd with rfl | ⟨_, rfl⟩ | ⟨_, rfl⟩ | ⟨_, rfl⟩ | ⟨_, rfl⟩ <;> exact ea
/-- two things that differ -/
theorem t_apart {x y : Dt} {P : Sv → List Sv → Prop} (h1 : eqBo A.Walk (c_Walk___eq__ A) x y = some false) (h2 : eqBo A.Walk (c_Walk___eq__ A) y x = some false) (h : P (.dat (.bl true)) []) : Wp (c__law_apart A [.dat x, .dat y]) P := by
  have e1 : eqO A.Walk (c_Walk___eq__ A) x y = some (.bl false) := by unfold eqO; rw [h1]; rfl
  have e2 : eqO A.Walk (c_Walk___eq__ A) y x = some (.bl false) := by unfold eqO; rw [h2]; rfl
  have e3 : neO A.Walk (c_Walk___eq__ A) x y = some (.bl true) := by unfold neO; rw [h1]; rfl
  have e4 : neO A.Walk (c_Walk___eq__ A) y x = some (.bl true) := by unfold neO; rw [h2]; rfl
  unfold c__law_apart m__law_apart
  walk_at "ev"
  rw [e1]
  walk_at "ev"
  rw [e2]
  walk_at "ev"
  rw [e3]
  walk_at "ev"
  rw [e4]
  walk_at "ev"
  rw [show eqD (.lst [.bl false, .bl false, .bl true, .bl true]) (.lst [.bl false, .bl false, .bl true, .bl true]) = some (.bl true) from rfl]
  exact h
theorem t_apartW {n1 n2 : Nat} {l1 l2 : List Mv} {P : Sv → List Sv → Prop} (hne : ¬ (n1 = n2 ∧ (asc l1).map moveD = (asc l2).map moveD)) (h : P (.dat (.bl true)) []) : Wp (c__law_apart A [.dat (wk A n1 l1), .dat (wk A n2 l2)]) P := by
  obtain ⟨b, e, hb⟩ := eqBo_wk (A := A) (n1 := n1) (n2 := n2) (l1 := l1) (l2 := l2)
  obtain ⟨b', e', hb'⟩ := eqBo_wk (A := A) (n1 := n2) (n2 := n1) (l1 := l2) (l2 := l1)
  have q : b = false := by
    cases b with
    | false => rfl
    | true => exact (hne (hb.mp rfl)).elim
  have q' : b' = false := by
    cases b' with
    | false => rfl
    | true => exact (hne ⟨(hb'.mp rfl).1.symm, (hb'.mp rfl).2.symm⟩).elim
  rw [q] at e
  rw [q'] at e'
  exact t_apart e e' h
end K21

set_option Elab.async false
set_option linter.all false
set_option maxRecDepth 100000
set_option maxHeartbeats 4000000
namespace K21
open PySem PySem.Spec PyProof.Rows L2 Pd Qm
local macro_rules | `(tactic| walk_at "ev") => `(tactic| simp (config := {dsimp := false}) only [↓wp_ok, ↓wp_bad, ↓wp_mC, ↓wp_var, ↓atV_dat, ↓atV_lst, ↓wp_rg, ↓wp_pk, ↓atP_dat, ↓atP_lst, rv_inl, rv_inr, svD_dat, svD_lst, ↓wp_op, ↓wp_cb, ↓wp_un, ↓atB_bl, ↓wp_mBl, ↓wp_chain, ↓wp_isN, ↓wp_and, ↓wp_or, ↓wp_not, ↓wp_andV, ↓wp_orV, ↓wp_notV, ↓wp_mIf, ↓wp_all0, ↓wp_all1, ↓wp_tup, ↓wp_lst, ↓wp_lstN, ↓wp_dv, ↓atF_dat, ↓atF_lst, ↓wp_fz, ↓atO_int, ↓wp_part0, ↓wp_part1, ↓wp_sl, ↓wp_fld, ↓wp_tgN, ↓wp_tgT, ↓wp_tgNil, ↓wp_tgCons, ↓seqK_nx, ↓seqK_rt, ↓seqK_bk, ↓seqK_ct, ↓wp_seq, ↓wp_nx, ↓wp_bk, ↓wp_ct, ↓wp_ret, ↓wp_retO, ↓wp_retN, ↓wp_drop, ↓wp_asg, ↓wp_asgO, ↓wp_asgT, ↓wp_par, ↓wp_par3, ↓atL_lst, ↓wp_app, ↓atI2_int, ↓wp_pop, ↓wp_tgSub, isL_lst, ↓wp_call, ↓wp_ags0, ↓wp_agsE, ↓wp_agsI, isOwn_lst, pick0, pickE, pickI, back0, backN, backX, backI, kindE, kindI, List.map_cons, List.map_nil, ↓fnK_rt, ↓fnK_nx, ↓wp_fn, ↓wp_for, ↓rndK_nx, ↓rndK_ct, ↓rndK_bk, ↓rndK_rt, ↓forK_nx, ↓forK_ct, ↓forK_bk, ↓forK_rt, ↓for0, ↓wp_iter, ↓wp_rng1, ↓wp_rng2, ↓atS_tup, ↓atS_lst, ↓wp_enum, ↓wp_lc, ↓wp_lcD, ↓wp_lcO, ↓wp_yes, ↓lc0, ↓wp_lrng, ↓wp_trng, ↓wp_lrngO, ↓wp_lstOf, ↓atX_ok, ↓wp_make, ↓wp_makeK, ↓atJ_ins, ↓wp_fldSet, ↓wp_meth, ↓atStr_str, ↓wp_js0, ↓wp_js1, ↓wp_fstr, ↓wp_join, ↓wp_cons, ↓wp_star, ↓wp_app2, ↓wp_opE, ↓atD_dat, ↓wp_U, ↓atOb_obj, ↓wp_UM, ↓wp_UI, ↓wo_arrP, ↓wo_arrS, ↓wo_arrPS, itemsD, wo_some, ↓wo_ite, ↓wo_map, ↓br_t, ↓br_f, ↓br_not, Qm.addD, subD, mulD, modD, divD, powD, ltD, leD, gtD, geD, Qm.intD, absD, lenD, maxD, minD, tupD, lstD, dmD, negD, seqD, isN, rngD, ixD_lst, ixD_tup, ixD_scr, slD, atI_0, atI_1, atI_2, atI_3, atI_4, atI_5, atI_6, atI_7, atI_8, atI_9, atI_10, atI_11, atI_12, ixN_30, ixN_31, ixN_32,
  List.getElem?_cons_zero, List.getElem?_cons_succ, List.set_cons_zero, List.set_cons_succ, List.getD_cons_zero, List.getD_cons_succ, List.cons_append, List.nil_append, List.replicate_succ, List.replicate_zero, List.take_succ_cons, List.take_zero, List.drop_succ_cons, List.drop_zero, List.append_nil, Nat.reduceEqDiff, Int.cast_ofNat_Int, List.length_cons, List.length_nil, wipeS, restS, lightS, Sv.light, List.all_cons, List.all_nil, Bool.and_true, Bool.and_self, true_and, and_true, and_self, Bool.not_true, Bool.not_false, Nat.reduceSub, Nat.reduceAdd, Nat.reduceLeDiff, Nat.zero_add, Int.reduceLT, Int.reduceLE, Int.reduceAdd, Int.reduceSub, Int.reduceMul, Int.reduceNeg, Int.reducePow, Int.reduceToNat, Nat.reducePow, eqD_int, neD_int, Int.reduceEq, ↓reduceIte, if_true, if_false, Bool.false_eq_true, gt_iff_lt, ge_iff_le, decide_true, decide_false])
local macro_rules | `(tactic| walk_at "sd") => `(tactic| first | omega | exact cdiv_lit (by decide) (by decide) | exact cpow_lit (by decide) (by decide) (by decide) | exact cmul_r (by omega) (by omega) | exact cmul_l (by omega) (by omega))
local macro_rules | `(tactic| walk_at "go") => `(tactic| (walk_at "ev"; repeat ((with_reducible refine And.intro ?_ ?_); (· walk_at "sd"); try walk_at "ev")))

variable {A : Ca}
structure NOk (l : List Str) : Prop where
  len : l.length ≤ 12
  few : l.length ≤ 3 ∨ l.length = 12
  nd : l.Nodup
  el : ∀ z ∈ l, Nm 1 8 z
theorem NOk.perm {l l' : List Str} (h : NOk l) (p : l'.Perm l) : NOk l' := ⟨by rw [p.length_eq]; exact h.len, by rw [p.length_eq]; exact h.few, p.nodup_iff.mpr h.nd, fun m hm => h.el m (p.mem_iff.mp hm)⟩
theorem pure_strs (l : List Str) : puresD (l.map Dt.str) = true := puresD_iff.mpr fun d hd => by
  obtain ⟨x, _, rfl⟩ := List.mem_map.mp hd
  rfl
def mv (w : Bool) (z : Str) : Mv := ⟨0, z, w, 0⟩
theorem mv_ok {w : Bool} {l : List Str} (h : NOk l) : (l.map (mv w)).length ≤ 12 ∧ (l.map (mv w)).Nodup ∧ ∀ m ∈ l.map (mv w), MOk 1 m := by
  refine ⟨by rw [List.length_map]; exact h.len, h.nd.map _ fun a b hab e => hab (Mv.mk.inj e).2.1, fun m hm => ?_⟩
  obtain ⟨z, hz, rfl⟩ := List.mem_map.mp hm
  exact ⟨Nat.lt_succ_self 0, Nat.lt_succ_self 0, h.el z hz⟩
theorem mv_lok {w : Bool} {l : List Str} (h : NOk l) : LOk 1 (l.map (mv w)) := by
  obtain ⟨h1, h2, h3⟩ := mv_ok (w := w) h
  exact ⟨h1, by rw [List.length_map]; have := h.few; omega, h2, h3⟩
theorem t_check_names {l : List Str} {P : Sv → List Sv → Prop} (hl : NOk l) (h : P (.dat .non) []) : Wp (c_check_names A [.dat (.tup (l.map Dt.str)), .dat (.int 0), .dat (.int 12)]) P := by
  have h12 := hl.len
  unfold c_check_names m_check_names
  walk_at "ev"
  rw [List.length_map]
  rw [decide_eq_true (show (0 : Int) ≤ (l.length : Int) by omega)]
  walk_at "ev"
  rw [decide_eq_true (show (l.length : Int) ≤ 12 by omega)]
  walk_at "ev"
  refine for_at (fun i δ => ∃ a b, δ = [.dat (.tup (l.map Dt.str)), .dat (.int 0), .dat (.int 12), .lst ((l.take i).map Dt.str), a, b]) ⟨.un, .un, rfl⟩ ?_ ?_
  · rintro i d δ hd ⟨a, b, rfl⟩
    obtain ⟨x, hx, rfl⟩ := enumD_get hd
    rw [List.getElem?_map] at hx
    cases e : l[i]? with
    | none => rw [e] at hx; cases hx
    | some z =>
      rw [e] at hx
      cases hx
      walk_at "ev"
      refine t_is_name (hl.el z (List.mem_of_getElem? e)) ?_
      walk_at "ev"
      refine wo_in (x := .str z) rfl (pure_strs _) (Nat.zero_le _) fun bb hb => ?_
      have hbf : bb = false := by
        cases bb with
        | false => rfl
        | true =>
          obtain ⟨y, hy, e2⟩ := List.mem_map.mp (hb.mp rfl)
          exact (not_before (f := id) (by simpa using hl.nd) e hy (Dt.str.inj e2)).elim
      rw [hbf]
      walk_at "ev"
      refine ⟨by rw [List.length_map, List.length_take]; omega, .dat (.int i), .dat (.str z), ?_⟩
      rw [List.take_succ, e]
      simp
  · rintro δ ⟨a, b, rfl⟩
    walk_at "ev"
    exact h
theorem t_rule_of {w : Bool} {l : List Str} {P : Sv → List Sv → Prop} (hl : NOk l) (h : P (.dat (wk A 1 (l.map (mv w)))) []) : Wp (c_rule_of A [.dat (.str (wayS w)), .dat (.tup (l.map Dt.str))]) P := by
  have h12 := hl.len
  obtain ⟨h1, h2, h3⟩ := mv_ok (w := w) hl
  unfold c_rule_of m_rule_of
  walk_at "ev"
  refine t_check_names hl ?_
  walk_at "ev"
  refine ⟨by rw [List.length_map]; omega, ?_⟩
  refine lc_fn (g := fun z => moveD (mv w z)) (fun z _ => ?_) ?_
  · walk_at "ev"
    rfl
  walk_at "ev"
  refine ⟨by rw [List.length_map]; omega, ?_⟩
  rw [show (l.map fun z => moveD (mv w z)) = (l.map (mv w)).map moveD from by rw [List.map_map]; rfl]
  refine t_init (n := 1) (by decide) (by decide) h1 h2 h3 ?_
  walk_at "ev"
  exact h
theorem t_s_along {l : List Str} {P : Sv → List Sv → Prop} (hl : NOk l) (h : P (.dat (wk A 1 (l.map (mv true)))) []) : Wp (c_Walk_along A [.dat (.tup (l.map Dt.str))]) P := by
  unfold c_Walk_along m_Walk_along
  walk_at "ev"
  refine t_rule_of (w := true) hl ?_
  walk_at "ev"
  exact h
theorem t_s_against {l : List Str} {P : Sv → List Sv → Prop} (hl : NOk l) (h : P (.dat (wk A 1 (l.map (mv false)))) []) : Wp (c_Walk_against A [.dat (.tup (l.map Dt.str))]) P := by
  unfold c_Walk_against m_Walk_against
  walk_at "ev"
  refine t_rule_of (w := false) hl ?_
  walk_at "ev"
  exact h
theorem t_along {l : List Str} {P : Sv → List Sv → Prop} (hl : NOk l) (h : P (.dat (wk A 1 (l.map (mv true)))) []) : Wp (c__law_along A [.dat (.lst (l.map Dt.str))]) P := by
  have h12 := hl.few
  unfold c__law_along m__law_along
  rcases l with _ | ⟨a, _ | ⟨b, _ | ⟨c, _ | ⟨d, _ | ⟨e, _ | ⟨f, _ | ⟨g, _ | ⟨i, _ | ⟨j, _ | ⟨k, _ | ⟨m, _ | ⟨o, _ | ⟨r, s⟩⟩⟩⟩⟩⟩⟩⟩⟩⟩⟩⟩⟩
  case nil =>
    walk_at "ev"
    refine t_s_along (l := []) hl ?_
    walk_at "ev"
    exact h
  case cons.nil =>
    walk_at "ev"
    refine t_s_along (l := [a]) hl ?_
    walk_at "ev"
    exact h
  case cons.cons.nil =>
    walk_at "ev"
    refine t_s_along (l := [a, b]) hl ?_
    walk_at "ev"
    exact h
  case cons.cons.cons.nil =>
    walk_at "ev"
    refine t_s_along (l := [a, b, c]) hl ?_
    walk_at "ev"
    exact h
  case cons.cons.cons.cons.cons.cons.cons.cons.cons.cons.cons.cons.nil =>
    walk_at "ev"
    refine t_s_along (l := [a, b, c, d, e, f, g, i, j, k, m, o]) hl ?_
    walk_at "ev"
    exact h
  all_goals simp at h12
theorem t_against {l : List Str} {P : Sv → List Sv → Prop} (hl : NOk l) (h : P (.dat (wk A 1 (l.map (mv false)))) []) : Wp (c__law_against A [.dat (.lst (l.map Dt.str))]) P := by
  have h12 := hl.few
  unfold c__law_against m__law_against
  rcases l with _ | ⟨a, _ | ⟨b, _ | ⟨c, _ | ⟨d, _ | ⟨e, _ | ⟨f, _ | ⟨g, _ | ⟨i, _ | ⟨j, _ | ⟨k, _ | ⟨m, _ | ⟨o, _ | ⟨r, s⟩⟩⟩⟩⟩⟩⟩⟩⟩⟩⟩⟩⟩
  case nil =>
    walk_at "ev"
    refine t_s_against (l := []) hl ?_
    walk_at "ev"
    exact h
  case cons.nil =>
    walk_at "ev"
    refine t_s_against (l := [a]) hl ?_
    walk_at "ev"
    exact h
  case cons.cons.nil =>
    walk_at "ev"
    refine t_s_against (l := [a, b]) hl ?_
    walk_at "ev"
    exact h
  case cons.cons.cons.nil =>
    walk_at "ev"
    refine t_s_against (l := [a, b, c]) hl ?_
    walk_at "ev"
    exact h
  case cons.cons.cons.cons.cons.cons.cons.cons.cons.cons.cons.cons.nil =>
    walk_at "ev"
    refine t_s_against (l := [a, b, c, d, e, f, g, i, j, k, m, o]) hl ?_
    walk_at "ev"
    exact h
  all_goals simp at h12
theorem twelveS : ("abcdefghijkl" : Str).cps.toList.length = 12 ∧ ("abcdefghijkl" : Str).cps.toList.Nodup ∧ ∀ c ∈ ("abcdefghijkl" : Str).cps.toList, c ∈ signsS.cps.toList := by decide +kernel
theorem twelve_ok {z : Str} (hz : Nm 1 7 z) : NOk (("abcdefghijkl" : Str).cps.toList.map fun c => z ++ (⟨#[c]⟩ : Str)) := by
  obtain ⟨h1, h2, h3⟩ := twelveS
  refine ⟨by rw [List.length_map]; omega, .inr (by rw [List.length_map]; exact h1), h2.map _ fun a b hab e => hab (app_inj e), fun y hy => ?_⟩
  obtain ⟨c, hc, rfl⟩ := List.mem_map.mp hy
  refine (hz.app (y := ⟨#[c]⟩) fun d hd => ?_).mono (Nat.le_add_right 1 _) (Nat.le_refl 8)
  rw [List.mem_singleton.mp (show d ∈ [c] from hd)]
  exact h3 c hc
theorem t_names_right {p : List Dt} {P : Sv → List Sv → Prop} (hp : Pool p) (h : ∀ q, Pool q → P (.dat (.bl true)) [.lst q]) : Wp (c__law_names_right A [.lst p]) P := by
  unfold c__law_names_right m__law_names_right
  walk_at "ev"
  refine t_name (a := 1) (b := 7) hp (by decide) (by decide) (by decide) fun z q hz hq => ?_
  have hz7 := hz.hi
  walk_at "ev"
  refine t_draw hq (by decide) (by decide) fun k q hk hq => ?_
  walk_at "ev"
  refine br_dec (fun hk4 => ?tw) (fun hk4 => ?wo)
  case' tw =>
    walk_at "ev"
    refine ⟨by show (List.map _ _).length ≤ _; rw [List.length_map, twelveS.1]; decide, ?_⟩
    refine lc_fn (l := ("abcdefghijkl" : Str).cps.toList) (f := fun c => .str ⟨#[c]⟩) (g := fun c => .str (z ++ (⟨#[c]⟩ : Str))) (fun c _ => ?a1) ?a2
    case' a1 =>
      walk_at "ev"
      show z.length + 1 ≤ 100000
      omega
    case' a2 =>
      rw [show (("abcdefghijkl" : Str).cps.toList.map fun c => Dt.str (z ++ (⟨#[c]⟩ : Str))) = (("abcdefghijkl" : Str).cps.toList.map fun c => z ++ (⟨#[c]⟩ : Str)).map Dt.str from by rw [List.map_map]; rfl]
      have hws := twelve_ok hz
      generalize (("abcdefghijkl" : Str).cps.toList.map fun c => z ++ (⟨#[c]⟩ : Str)) = ws at hws
  case' wo =>
    walk_at "ev"
    refine t_words hq fun ws0 q hw hl hn hq => ?_
    walk_at "ev"
    rw [cut_to _ k _ rfl, ← List.map_take]
    have hws : NOk (ws0.take k) := ⟨by rw [List.length_take]; omega, .inl (by rw [List.length_take]; omega), hw.sublist (List.take_sublist _ _), fun y hy => hn y (List.mem_of_mem_take hy)⟩
    generalize ws0.take k = ws at hws
  all_goals
    have h12 := hws.len
    try walk_at "ev"
    refine t_turned Dt.str hq (by omega) fun w1 q hw1 hq => ?_
    have ok1 := hws.perm hw1
    have l1 := ok1.len
    walk_at "ev"
    refine t_along ok1 ?_
    walk_at "ev"
    refine t_turned Dt.str hq (by omega) fun w2 q hw2 hq => ?_
    have ok2 := ok1.perm hw2
    walk_at "ev"
    refine t_against ok2 ?_
    walk_at "ev"
    refine ⟨by rw [List.length_map]; omega, ?_⟩
    refine lc_fn (g := fun z => moveD (mv true z)) (fun z _ => ?_) ?_
    · walk_at "ev"
      rfl
    walk_at "ev"
    refine ⟨by rw [List.length_map]; omega, ?_⟩
    refine lc_fn (g := fun z => moveD (mv false z)) (fun z _ => ?_) ?_
    · walk_at "ev"
      rfl
    rw [show (w1.map fun z => moveD (mv true z)) = (w1.map (mv true)).map moveD from by rw [List.map_map]; rfl, show (w1.map fun z => moveD (mv false z)) = (w1.map (mv false)).map moveD from by rw [List.map_map]; rfl]
    obtain ⟨g1, g2, g3⟩ := mv_ok (w := true) ok1
    obtain ⟨f1, f2, f3⟩ := mv_ok (w := false) ok1
    walk_at "ev"
    refine t_shown (n := 1) (by decide) (.refl _) g1 g3 ?_
    walk_at "ev"
    refine t_shown (n := 1) (by decide) (hw2.map _) f1 f3 ?_
    walk_at "ev"
    have fin : Wp (c__law_rule A [.dat (natD 1), .dat (.lst ((w1.map (mv true)).map moveD))]) (fun s o => s = .dat (wk A 1 (w1.map (mv true))) ∧ o = []) := t_rule (by decide) (by decide) (mv_lok ok1) ⟨rfl, rfl⟩
    have fin2 : Wp (c__law_rule A [.dat (natD 1), .dat (.lst ((w1.map (mv false)).map moveD))]) (fun s o => s = .dat (wk A 1 (w1.map (mv false))) ∧ o = []) := t_rule (by decide) (by decide) (mv_lok ok1) ⟨rfl, rfl⟩
    refine wo_ne (pure_strs w1) rfl (Nat.le_trans (Nat.succ_le_succ (depsD_le (n := 0) fun d hd => by
      obtain ⟨x, _, rfl⟩ := List.mem_map.mp hd
      exact Nat.le_refl 0)) (by decide)) fun b hb => ?_
    walk_at "ev"
    refine br_of (fun e => ?_) (fun e => ?_)
    rotate_left
    have hne : w1 ≠ [] := fun z => by
      subst z
      rw [hb.mpr rfl] at e
      cases e
    walk_at "ev"
    refine t_apartW (fun z => ?_) ?_
    · obtain ⟨x, hx⟩ := List.exists_mem_of_ne_nil _ hne
      have m1 : moveD (mv true x) ∈ (asc (w1.map (mv true))).map moveD := List.mem_map_of_mem ((asc_perm _).mem_iff.mpr (List.mem_map_of_mem hx))
      rw [z.2] at m1
      obtain ⟨y, hy, e2⟩ := List.mem_map.mp m1
      obtain ⟨y', hy', rfl⟩ := List.mem_map.mp ((asc_perm _).mem_iff.mp hy)
      have := moveD_inj e2
      cases this
    all_goals
      walk_at "ev"
      refine fin.imp fun s o hs => ?_
      obtain ⟨rfl, rfl⟩ := hs
      walk_at "ev"
      obtain ⟨b1, e1, hb1⟩ := eqBo_wk (A := A) (n1 := 1) (n2 := 1) (l1 := w1.map (mv true)) (l2 := w1.map (mv true))
      rw [show eqO A.Walk (c_Walk___eq__ A) (wk A 1 (w1.map (mv true))) (wk A 1 (w1.map (mv true))) = some (.bl true) from by unfold eqO; rw [e1, hb1.mpr ⟨rfl, rfl⟩]; rfl]
      walk_at "ev"
      refine fin2.imp fun s o hs => ?_
      obtain ⟨rfl, rfl⟩ := hs
      walk_at "ev"
      obtain ⟨b2, e2, hb2⟩ := eqBo_wk (A := A) (n1 := 1) (n2 := 1) (l1 := w2.map (mv false)) (l2 := w1.map (mv false))
      rw [show eqO A.Walk (c_Walk___eq__ A) (wk A 1 (w2.map (mv false))) (wk A 1 (w1.map (mv false))) = some (.bl true) from by unfold eqO; rw [e2, hb2.mpr ⟨rfl, asc_same (hw2.map _)⟩]; rfl]
      walk_at "ev"
      rw [show eqD (.lst [.bl true, .bl true]) (.lst [.bl true, .bl true]) = some (.bl true) from rfl]
      walk_at "ev"
      exact h _ hq
end K21

set_option Elab.async false
set_option linter.all false
set_option maxRecDepth 100000
set_option maxHeartbeats 4000000
namespace K21
open PySem PySem.Spec PyProof.Rows L2 Pd Qm
local macro_rules | `(tactic| walk_at "ev") => `(tactic| simp (config := {dsimp := false}) only [↓wp_ok, ↓wp_bad, ↓wp_mC, ↓wp_var, ↓atV_dat, ↓atV_lst, ↓wp_rg, ↓wp_pk, ↓atP_dat, ↓atP_lst, rv_inl, rv_inr, svD_dat, svD_lst, ↓wp_op, ↓wp_cb, ↓wp_un, ↓atB_bl, ↓wp_mBl, ↓wp_chain, ↓wp_isN, ↓wp_and, ↓wp_or, ↓wp_not, ↓wp_andV, ↓wp_orV, ↓wp_notV, ↓wp_mIf, ↓wp_all0, ↓wp_all1, ↓wp_tup, ↓wp_lst, ↓wp_lstN, ↓wp_dv, ↓atF_dat, ↓atF_lst, ↓wp_fz, ↓atO_int, ↓wp_part0, ↓wp_part1, ↓wp_sl, ↓wp_fld, ↓wp_tgN, ↓wp_tgT, ↓wp_tgNil, ↓wp_tgCons, ↓seqK_nx, ↓seqK_rt, ↓seqK_bk, ↓seqK_ct, ↓wp_seq, ↓wp_nx, ↓wp_bk, ↓wp_ct, ↓wp_ret, ↓wp_retO, ↓wp_retN, ↓wp_drop, ↓wp_asg, ↓wp_asgO, ↓wp_asgT, ↓wp_par, ↓wp_par3, ↓atL_lst, ↓wp_app, ↓atI2_int, ↓wp_pop, ↓wp_tgSub, isL_lst, ↓wp_call, ↓wp_ags0, ↓wp_agsE, ↓wp_agsI, isOwn_lst, pick0, pickE, pickI, back0, backN, backX, backI, kindE, kindI, List.map_cons, List.map_nil, ↓fnK_rt, ↓fnK_nx, ↓wp_fn, ↓wp_for, ↓rndK_nx, ↓rndK_ct, ↓rndK_bk, ↓rndK_rt, ↓forK_nx, ↓forK_ct, ↓forK_bk, ↓forK_rt, ↓for0, ↓wp_iter, ↓wp_rng1, ↓wp_rng2, ↓atS_tup, ↓atS_lst, ↓wp_enum, ↓wp_lc, ↓wp_lcD, ↓wp_lcO, ↓wp_yes, ↓lc0, ↓wp_lrng, ↓wp_trng, ↓wp_lrngO, ↓wp_lstOf, ↓atX_ok, ↓wp_make, ↓wp_makeK, ↓atJ_ins, ↓wp_fldSet, ↓wp_meth, ↓atStr_str, ↓wp_js0, ↓wp_js1, ↓wp_fstr, ↓wp_join, ↓wp_cons, ↓wp_star, ↓wp_app2, ↓wp_opE, ↓atD_dat, ↓wp_U, ↓atOb_obj, ↓wp_UM, ↓wp_UI, ↓wo_arrP, ↓wo_arrS, ↓wo_arrPS, itemsD, wo_some, ↓wo_ite, ↓wo_map, ↓br_t, ↓br_f, ↓br_not, Qm.addD, subD, mulD, modD, divD, powD, ltD, leD, gtD, geD, Qm.intD, absD, lenD, maxD, minD, tupD, lstD, dmD, negD, seqD, isN, rngD, ixD_lst, ixD_tup, ixD_scr, slD, atI_0, atI_1, atI_2, atI_3, atI_4, atI_5, atI_6, atI_7, atI_8, atI_9, atI_10, atI_11, atI_12, ixN_30, ixN_31, ixN_32,
  List.getElem?_cons_zero, List.getElem?_cons_succ, List.set_cons_zero, List.set_cons_succ, List.getD_cons_zero, List.getD_cons_succ, List.cons_append, List.nil_append, List.replicate_succ, List.replicate_zero, List.take_succ_cons, List.take_zero, List.drop_succ_cons, List.drop_zero, List.append_nil, Nat.reduceEqDiff, Int.cast_ofNat_Int, List.length_cons, List.length_nil, wipeS, restS, lightS, Sv.light, List.all_cons, List.all_nil, Bool.and_true, Bool.and_self, true_and, and_true, and_self, Bool.not_true, Bool.not_false, Nat.reduceSub, Nat.reduceAdd, Nat.reduceLeDiff, Nat.zero_add, Int.reduceLT, Int.reduceLE, Int.reduceAdd, Int.reduceSub, Int.reduceMul, Int.reduceNeg, Int.reducePow, Int.reduceToNat, Nat.reducePow, eqD_int, neD_int, Int.reduceEq, ↓reduceIte, if_true, if_false, Bool.false_eq_true, gt_iff_lt, ge_iff_le, decide_true, decide_false])
local macro_rules | `(tactic| walk_at "sd") => `(tactic| first | omega | exact cdiv_lit (by decide) (by decide) | exact cpow_lit (by decide) (by decide) (by decide) | exact cmul_r (by omega) (by omega) | exact cmul_l (by omega) (by omega))
local macro_rules | `(tactic| walk_at "go") => `(tactic| (walk_at "ev"; repeat ((with_reducible refine And.intro ?_ ?_); (· walk_at "sd"); try walk_at "ev")))

variable {A : Ca}
theorem LOk.up {n : Nat} {l : List Mv} (h : LOk n l) : LOk (n + 1) l := ⟨h.len, h.six, h.nd, fun m hm => ⟨Nat.lt_succ_of_lt (h.el m hm).a, Nat.lt_succ_of_lt (h.el m hm).b, (h.el m hm).z⟩⟩
theorem eqO_of {x y : Dt} {b : Bool} (h : eqBo A.Walk (c_Walk___eq__ A) x y = some b) : eqO A.Walk (c_Walk___eq__ A) x y = some (.bl b) ∧ neO A.Walk (c_Walk___eq__ A) x y = some (.bl (!b)) := by
  unfold eqO neO
  rw [h]
  exact ⟨rfl, rfl⟩
theorem same_wk {n : Nat} {l m : List Mv} (h : l.Perm m) : eqBo A.Walk (c_Walk___eq__ A) (wk A n l) (wk A n m) = some true := by
  obtain ⟨b, e, hb⟩ := eqBo_wk (A := A) (n1 := n) (n2 := n) (l1 := l) (l2 := m)
  rw [e, hb.mpr ⟨rfl, asc_same h⟩]
theorem t_rule_right {p : List Dt} {P : Sv → List Sv → Prop} (hp : Pool p) (h : ∀ q, Pool q → P (.dat (.bl true)) [.lst q]) : Wp (c__law_rule_right A [.lst p]) P := by
  have big : (2 : Int) ^ 200 > 100000 := by decide
  unfold c__law_rule_right m__law_rule_right
  walk_at "ev"
  refine t_draw hp (by decide) (by decide) fun k0 q hk0 hq => ?_
  walk_at "ev"
  refine t_words hq fun ws q hw hl hn hq => ?_
  walk_at "ev"
  obtain ⟨n, hn0, n1, n3⟩ : ∃ n : Nat, (1 + (k0 : Int)) = (n : Int) ∧ 1 ≤ n ∧ n ≤ 3 := ⟨1 + k0, by omega, by omega, by omega⟩
  rw [hn0]
  refine t_moves hq n1 n3 hw hl hn fun l q hlo hl6 hq => ?_
  walk_at "ev"
  refine t_draw hq (by decide) (by decide) fun k q hk hq => ?_
  walk_at "ev"
  refine t_name (a := 1) (b := 7) hq (by decide) (by decide) (by decide) fun z q hz hq => ?_
  have hz7 := hz.hi
  walk_at "ev"
  refine br_dec (fun hkz => ?zero) (fun hkz => ?nz)
  case' zero =>
    walk_at "ev"
    refine ⟨by show (List.map _ _).length ≤ _; rw [List.length_map, twelveS.1]; decide, ?_⟩
    refine lc_map (fun i ys δ => ∃ (L : List Mv) (q : List Dt), ys = L.map moveD ∧ L.map (·.z) = (("abcdefghijkl" : Str).cps.toList.take i).map (fun c => z ++ (⟨#[c]⟩ : Str)) ∧ (∀ m ∈ L, m.a < n ∧ m.b < n) ∧ δ = [.lst q, .dat (natD n), .dat (.lst (ws.map Dt.str)), .dat (.lst (l.map moveD)), .dat (.int k), .dat (.str z), .dat (.lst [.str "along", .str "against"]), .un, .un, .un, .un] ∧ Pool q) ⟨[], q, rfl, rfl, (fun m hm => nomatch hm), rfl, hq⟩ ?_ ?_
    · rintro i d ys δ hd ⟨L, q, rfl, hL, hm, rfl, hq⟩
      unfold Pd.signs at hd
      rw [List.getElem?_map] at hd
      cases e : ("abcdefghijkl" : Str).cps.toList[i]? with
      | none => rw [e] at hd; cases hd
      | some c =>
        rw [e] at hd
        cases hd
        walk_at "ev"
        refine t_draw hq (by omega) (by omega) fun k1 q hk1 hq => ?_
        walk_at "ev"
        refine ⟨by show z.length + 1 ≤ 100000; omega, ?_⟩
        refine t_draw hq (by decide) (by decide) fun k2 q hk2 hq => ?_
        walk_at "ev"
        obtain ⟨v, hv⟩ : ∃ v, [Dt.str "along", Dt.str "against"][k2]? = some (.str (wayS v)) := by
          have e : k2 = 0 ∨ k2 = 1 := by omega
          rcases e with rfl | rfl
          · exact ⟨true, rfl⟩
          · exact ⟨false, rfl⟩
        rw [atK (by simp; omega)]
        have hv' : [Dt.str "along", Dt.str "against"][k2]'(by simp; omega) = .str (wayS v) := by
          rw [List.getElem?_eq_getElem (by simp; omega)] at hv
          exact Option.some.inj hv
        rw [hv']
        walk_at "ev"
        refine t_draw hq (by omega) (by omega) fun k3 q hk3 hq => ?_
        walk_at "ev"
        refine ⟨L ++ [⟨k1, z ++ ⟨#[c]⟩, v, k3⟩], q, by simp, by rw [List.map_append, hL, List.take_succ, e, List.map_append]; rfl, fun m hmm => ?_, rfl, hq⟩
        rcases List.mem_append.mp hmm with hmm | hmm
        · exact hm m hmm
        · rw [List.mem_singleton.mp hmm]
          exact ⟨by show k1 < n; omega, by show k3 < n; omega⟩
    rintro ys δ ⟨L, q, rfl, hL, hm, rfl, hq⟩
    rw [show (Pd.signs "abcdefghijkl").length = 12 from by unfold Pd.signs; rw [List.length_map]; exact twelveS.1, List.take_of_length_le (by rw [twelveS.1]; decide)] at hL
    have tw := twelve_ok hz
    rw [← hL] at tw
    have ll : L.length = 12 := by
      have := congrArg List.length hL
      rw [List.length_map, List.length_map, twelveS.1] at this
      exact this
    have hlo : LOk n L := ⟨by omega, .inr ll, nodup_of_map tw.nd, fun m hmm => ⟨(hm m hmm).1, (hm m hmm).2, tw.el _ (List.mem_map_of_mem hmm)⟩⟩
    generalize L = l at hlo
    walk_at "ev"
    rw [decide_eq_false (by omega)]
  case' nz =>
    walk_at "ev"
    refine br_dec (fun hk1 => ?one) (fun hk1 => ?two)
  case' one =>
    walk_at "ev"
    have hlo : LOk n [] := ⟨by simp, .inl (by simp), List.nodup_nil, (fun m hm => nomatch hm)⟩
    rw [show ([] : List Dt) = ([] : List Mv).map moveD from rfl]
    generalize ([] : List Mv) = l at hlo
  all_goals
    have h12 := hlo.len
    try walk_at "ev"
    refine t_turned moveD hq (by omega) fun l1 q hp1 hq => ?_
    have ok1 := hlo.perm hp1
    have l12 := ok1.len
    walk_at "ev"
    refine t_rule n1 n3 ok1 ?_
    walk_at "ev"
    refine t_turned moveD hq (by omega) fun l2 q hp2 hq => ?_
    have ok2 := ok1.perm hp2
    walk_at "ev"
    refine t_rule n1 n3 ok2 ?_
    walk_at "ev"
    refine t_shown n3 (.refl _) l12 ok1.el ?_
    walk_at "ev"
    refine t_shown n3 hp2 l12 ok1.el ?_
    walk_at "ev"
    rw [(eqO_of (same_wk hp2.symm)).1]
    walk_at "ev"
    rw [(eqO_of (same_wk hp2.symm)).2]
    walk_at "ev"
    rw [(eqO_of (same_wk hp2)).1]
    walk_at "ev"
    rw [(eqO_of (same_wk (.refl l1))).1]
    walk_at "ev"
    rw [show neD (.lst [.bl true, .bl false, .bl true, .bl true]) (.lst [.bl true, .bl false, .bl true, .bl true]) = some (.bl false) from rfl]
    walk_at "ev"
    rw [fld_steps]
    walk_at "ev"
    rw [repr_wk n3 l12]
    walk_at "ev"
    rw [show [.tup ((asc l1).map moveD), .non, natD n, .str (text n l1.length), .tup [], .bl true] = [.tup ((asc l1).map moveD), .non, natD n, .str (text n l1.length), .tup [], .bl true].map id from (List.map_id _).symm]
    refine lc_fn (g := fun _ => .bl true) (fun d hd => ?_) ?_
    · have hno : eqBo A.Walk (c_Walk___eq__ A) (wk A n l1) d = some false ∧ eqBo A.Walk (c_Walk___eq__ A) d (wk A n l1) = some false := by
        simp only [List.mem_cons, List.not_mem_nil, or_false] at hd
        rcases hd with rfl | rfl | rfl | rfl | rfl | rfl
        · exact eqBo_no (t := "tuple") rfl (.inr (.inr (.inr (.inr ⟨_, rfl⟩))))
        · exact eqBo_no (t := "NoneType") rfl (.inl rfl)
        · exact eqBo_no (t := "int") rfl (.inr (.inl ⟨_, rfl⟩))
        · exact eqBo_no (t := "str") rfl (.inr (.inr (.inr (.inl ⟨_, rfl⟩))))
        · exact eqBo_no (t := "tuple") rfl (.inr (.inr (.inr (.inr ⟨_, rfl⟩))))
        · exact eqBo_no (t := "bool") rfl (.inr (.inr (.inl ⟨_, rfl⟩)))
      simp only [id]
      walk_at "ev"
      refine t_apart hno.1 hno.2 ?_
      walk_at "ev"
    rw [List.map_const']
    walk_at "ev"
    rw [show [Dt.bl true, Dt.bl true, Dt.bl true, Dt.bl true, Dt.bl true, Dt.bl true] = List.replicate 6 (.bl true) from rfl, allD_true]
    walk_at "ev"
    refine br_dec (fun h3 => ?_) (fun h3 => ?_)
    walk_at "ev"
    rw [show ((n : Int) + 1) = ((n + 1 : Nat) : Int) from by omega]
    refine t_rule (n := n + 1) (by omega) (by omega) ok1.up ?_
    walk_at "ev"
    refine t_apartW (fun hh => by omega) ?_
    walk_at "ev"
    all_goals
      try walk_at "ev"
      rw [List.length_map]
      refine br_dec (fun hl0 => ?_) (fun hl0 => ?_)
      walk_at "ev"
      refine br_dec (fun hl7 => ?_) (fun hl7 => ?_)
      walk_at "ev"
      rw [cut_from _ 1 1 rfl, ← List.map_drop]
      refine t_rule n1 n3 ⟨by rw [List.length_drop]; omega, .inl (by rw [List.length_drop]; omega), ok1.nd.sublist (List.drop_sublist 1 l1), fun m hm => ok1.el m (List.mem_of_mem_drop hm)⟩ ?_
      walk_at "ev"
      refine t_apartW (fun hh => ?_) ?_
      · have := congrArg List.length hh.2
        rw [List.length_map, List.length_map, asc_len, asc_len, List.length_drop] at this
        omega
      walk_at "ev"
      all_goals
        try walk_at "ev"
        rw [show ([] : List Dt) = ([] : List Mv).map moveD from rfl]
        refine t_init (l := []) n1 n3 (by decide) List.nodup_nil (fun m hm => nomatch hm) ?_
        walk_at "ev"
        rw [show ([] : List Dt) = ([] : List Mv).map moveD from rfl]
        refine t_shown (l := []) (m := []) n3 (.refl _) (by decide) (fun m hm => nomatch hm) ?_
        walk_at "ev"
        exact h _ hq
theorem law_true (A : Ca) (ns : List Int) (hns : ns.length ≤ 63) : c_law A [.dat (.scr ns)] = .ok (.dat (.bl true)) [] := by
  suffices H : Wp (c_law A [.dat (.scr ns)]) fun s o => s = .dat (.bl true) ∧ o = [] by
    obtain ⟨s, o, e, rfl, rfl⟩ := H.get
    exact e
  unfold c_law m_law
  walk_at "ev"
  have hb : -4611686018427387904 ≤ (if 2 < (if (6 : Int) < (ns.length : Int) then (6 : Int) else (ns.length : Int)) then (if (6 : Int) < (ns.length : Int) then (6 : Int) else (ns.length : Int)) else 2) ∧ (if 2 < (if (6 : Int) < (ns.length : Int) then (6 : Int) else (ns.length : Int)) then (if (6 : Int) < (ns.length : Int) then (6 : Int) else (ns.length : Int)) else 2) ≤ 6 := by
    split <;> split <;> omega
  generalize (if 2 < (if (6 : Int) < (ns.length : Int) then (6 : Int) else (ns.length : Int)) then (if (6 : Int) < (ns.length : Int) then (6 : Int) else (ns.length : Int)) else 2) = N at hb ⊢
  refine ⟨⟨hb.1, by omega⟩, ?_⟩
  refine for_at (fun i δ => ∃ a b c, δ = [.dat (.scr ns), a, b, c]) ⟨.un, .un, .un, rfl⟩ ?_ ?_
  · rintro i d δ hd ⟨a, b, c, rfl⟩
    have hi := (upto_get hd).1
    rw [(upto_get hd).2, Int.zero_add]
    walk_at "ev"
    refine t_cell (by omega) fun z => ?_
    walk_at "ev"
    refine t_pool fun p hp => ?_
    walk_at "ev"
    refine for_at (fun j δ => ∃ q c, Pool q ∧ δ = [.dat (.scr ns), .dat (.int i), .lst q, c]) ⟨p, c, hp, rfl⟩ ?_ ?_
    · rintro j d δ hd ⟨q, c, hq, rfl⟩
      walk_at "ev"
      refine t_rule_right hq fun q hq => ?_
      walk_at "ev"
      refine t_names_right hq fun q2 hq2 => ?_
      walk_at "ev"
      exact ⟨q2, _, hq2, rfl⟩
    · rintro δ ⟨q, c, hq, rfl⟩
      walk_at "ev"
      exact ⟨_, _, _, rfl⟩
  · rintro δ ⟨a, b, c, rfl⟩
    walk_at "ev"
end K21

set_option Elab.async false
set_option linter.all false
set_option maxRecDepth 100000
set_option maxHeartbeats 4000000
namespace K21
open PySem PySem.Spec PyProof.Rows L2 Pd Qm
theorem all_mk {P : Program} {w : World} {K : PySem.W.Frag} {h : Heap} {mg : Str → Option Value} {fa : Addr} {C_Walk : Addr} {cld_Walk : ClassData} {f0 : Addr} {od0 an0 : Option Addr} {sl0 : Array (Option Value)} {oc0 dc0 pm0 cd0 ct0 : Value} {kV0 : Value} {f1 : Addr} {od1 an1 : Option Addr} {sl1 : Array (Option Value)} {oc1 dc1 pm1 cd1 ct1 : Value} {kV1 : Value} {f2 : Addr} {od2 an2 : Option Addr} {sl2 : Array (Option Value)} {oc2 dc2 pm2 cd2 ct2 : Value} {kV2 : Value} {f3 : Addr} {od3 an3 : Option Addr} {sl3 : Array (Option Value)} {oc3 dc3 pm3 cd3 ct3 : Value} {kV3 : Value} {f4 : Addr} {od4 an4 : Option Addr} {sl4 : Array (Option Value)} {oc4 dc4 pm4 cd4 ct4 : Value} {kV4 : Value} {f5 : Addr} {od5 an5 : Option Addr} {sl5 : Array (Option Value)} {oc5 dc5 pm5 cd5 ct5 : Value} {kV5 : Value} {f6 : Addr} {od6 an6 : Option Addr} {sl6 : Array (Option Value)} {oc6 dc6 pm6 cd6 ct6 : Value} {kV6 : Value} {f7 : Addr} {od7 an7 : Option Addr} {sl7 : Array (Option Value)} {oc7 dc7 pm7 cd7 ct7 : Value} {kV7 : Value} {f8 : Addr} {od8 an8 : Option Addr} {sl8 : Array (Option Value)} {oc8 dc8 pm8 cd8 ct8 : Value} {kV8 : Value} {f9 : Addr} {od9 an9 : Option Addr} {sl9 : Array (Option Value)} {oc9 dc9 pm9 cd9 ct9 : Value} {kV9 : Value} {f10 : Addr} {od10 an10 : Option Addr} {sl10 : Array (Option Value)} {oc10 dc10 pm10 cd10 ct10 : Value} {kV10 : Value} {f11 : Addr} {od11 an11 : Option Addr} {sl11 : Array (Option Value)} {oc11 dc11 pm11 cd11 ct11 : Value} {kV11 : Value} {f12 : Addr} {od12 an12 : Option Addr} {sl12 : Array (Option Value)} {oc12 dc12 pm12 cd12 ct12 : Value} {kV12 : Value} {f13 : Addr} {od13 an13 : Option Addr} {sl13 : Array (Option Value)} {oc13 dc13 pm13 cd13 ct13 : Value} {kV13 : Value} {f14 : Addr} {od14 an14 : Option Addr} {sl14 : Array (Option Value)} {oc14 dc14 pm14 cd14 ct14 : Value} {kV14 : Value} {f15 : Addr} {od15 an15 : Option Addr} {sl15 : Array (Option Value)} {oc15 dc15 pm15 cd15 ct15 : Value} {kV15 : Value} {f16 : Addr} {od16 an16 : Option Addr} {sl16 : Array (Option Value)} {oc16 dc16 pm16 cd16 ct16 : Value} {kV16 : Value} {f17 : Addr} {od17 an17 : Option Addr} {sl17 : Array (Option Value)} {oc17 dc17 pm17 cd17 ct17 : Value} {kV17 : Value} {f18 : Addr} {od18 an18 : Option Addr} {sl18 : Array (Option Value)} {oc18 dc18 pm18 cd18 ct18 : Value} {kV18 : Value} {f19 : Addr} {od19 an19 : Option Addr} {sl19 : Array (Option Value)} {oc19 dc19 pm19 cd19 ct19 : Value} {kV19 : Value} {f20 : Addr} {od20 an20 : Option Addr} {sl20 : Array (Option Value)} {oc20 dc20 pm20 cd20 ct20 : Value} {kV20 : Value} {f21 : Addr} {od21 an21 : Option Addr} {sl21 : Array (Option Value)} {oc21 dc21 pm21 cd21 ct21 : Value} {kV21 : Value} {f22 : Addr} {od22 an22 : Option Addr} {sl22 : Array (Option Value)} {oc22 dc22 pm22 cd22 ct22 : Value} {kV22 : Value} {f23 : Addr} {od23 an23 : Option Addr} {sl23 : Array (Option Value)} {oc23 dc23 pm23 cd23 ct23 : Value} {kV23 : Value} {f24 : Addr} {od24 an24 : Option Addr} {sl24 : Array (Option Value)} {oc24 dc24 pm24 cd24 ct24 : Value} {kV24 : Value} {f25 : Addr} {od25 an25 : Option Addr} {sl25 : Array (Option Value)} {oc25 dc25 pm25 cd25 ct25 : Value} {kV25 : Value} {p25 : Addr} {rs25 : List Value} {f26 : Addr} {od26 an26 : Option Addr} {sl26 : Array (Option Value)} {oc26 dc26 pm26 cd26 ct26 : Value} {kV26 : Value} {f27 : Addr} {od27 an27 : Option Addr} {sl27 : Array (Option Value)} {oc27 dc27 pm27 cd27 ct27 : Value} {kV27 : Value} {p27 : Addr} {rs27 : List Value} {f28 : Addr} {od28 an28 : Option Addr} {sl28 : Array (Option Value)} {oc28 dc28 pm28 cd28 ct28 : Value} {kV28 : Value} {f29 : Addr} {od29 an29 : Option Addr} {sl29 : Array (Option Value)} {oc29 dc29 pm29 cd29 ct29 : Value} {kV29 : Value} {f30 : Addr} {od30 an30 : Option Addr} {sl30 : Array (Option Value)} {oc30 dc30 pm30 cd30 ct30 : Value} {kV30 : Value} {t_LONGEST : Tok} {t_LETTERS : Tok} {t_SIGNS : Tok} {t_ALONG : Tok} {t_AGAINST : Tok} {t_MOST_STEPS : Tok} {t_MOST_STATES : Tok} (X : K.In h) (G : h.Ns mainGlobals mg) (hfa : mg "law" = some (.ref fa))
    (hn : PySem.W.specialIn K (.builtin "object.__class__") "__get__" = some (some (.builtin "getset_descriptor.__get__")))
    (htk : PySem.W.takesIn K (.builtin "object.__class__") = some true)
    (aC_Walk : PySem.W.nsIn K mainGlobals "Walk" = some (some (.ref C_Walk)))
    (pg_Walk : PySem.W.plainGet K C_Walk Str.empty = true)
    (hd_Walk : PySem.W.hasDictIn K C_Walk = true)
    (po_Walk : PySem.W.plainOver K C_Walk = true)
    (sa_Walk : PySem.W.findIn K (.ref C_Walk) "__setattr__" = some (some (.builtin "object.__setattr__")))
    (mk_Walk : PySem.W.makesIn K C_Walk = true)
    (kc_Walk : PySem.W.keepIn K (.ref C_Walk) = true)
    (ha_Walk : PySem.W.findIn K (.ref C_Walk) "__class__" = some (some (.builtin "object.__class__")))
    (hm_Walk : PySem.W.mroIn K C_Walk (.type "object") = some true)
    (hmt_Walk : PySem.W.mroIn K C_Walk (.type "tuple") = some false)
    (hN_Walk : PySem.W.mroIn K C_Walk (.type "NoneType") = some false)
    (hi_Walk : PySem.W.mroIn K C_Walk (.type "int") = some false)
    (hb_Walk : PySem.W.mroIn K C_Walk (.type "bool") = some false)
    (hs_Walk : PySem.W.mroIn K C_Walk (.type "str") = some false)
    (ne_Walk : PySem.W.findIn K (.ref C_Walk) "__ne__" = some (some (.builtin "object.__ne__")))
    (kcl_Walk : PySem.W.clsIn K C_Walk = some cld_Walk)
    (kty_Walk : PySem.W.typeIn K (.ref C_Walk) = some (.type "type"))
    (nb_Walk : PySem.W.findIn K (.ref C_Walk) "__bool__" = some none)
    (nf_Walk_states : PySem.W.findIn K (.ref C_Walk) "states" = some none)
    (nf_Walk_steps : PySem.W.findIn K (.ref C_Walk) "steps" = some none)
    (a0 : PySem.W.nsIn K mainGlobals "_law_pool" = some (some (.ref f0)))
    (l0 : K.lookup f0 = some ⟨oc0, od0, .func (PySem.W.fnOf "_law_pool" "_law_pool" (defArgs s__law_pool) (defBody s__law_pool) (defScope s__law_pool) .none kV0 dc0 pm0 an0 cd0 ct0), sl0⟩)
    (c0 : PySem.W.codeIn K cd0 "_law_pool" = true)
    (k0 : PySem.W.keepIn K (.ref f0) = true)
    (a1 : PySem.W.nsIn K mainGlobals "_law_cell" = some (some (.ref f1)))
    (l1 : K.lookup f1 = some ⟨oc1, od1, .func (PySem.W.fnOf "_law_cell" "_law_cell" (defArgs s__law_cell) (defBody s__law_cell) (defScope s__law_cell) .none kV1 dc1 pm1 an1 cd1 ct1), sl1⟩)
    (c1 : PySem.W.codeIn K cd1 "_law_cell" = true)
    (k1 : PySem.W.keepIn K (.ref f1) = true)
    (a2 : PySem.W.nsIn K mainGlobals "_law_draw" = some (some (.ref f2)))
    (l2 : K.lookup f2 = some ⟨oc2, od2, .func (PySem.W.fnOf "_law_draw" "_law_draw" (defArgs s__law_draw) (defBody s__law_draw) (defScope s__law_draw) .none kV2 dc2 pm2 an2 cd2 ct2), sl2⟩)
    (c2 : PySem.W.codeIn K cd2 "_law_draw" = true)
    (k2 : PySem.W.keepIn K (.ref f2) = true)
    (a3 : PySem.W.nsIn K mainGlobals "_law_name" = some (some (.ref f3)))
    (l3 : K.lookup f3 = some ⟨oc3, od3, .func (PySem.W.fnOf "_law_name" "_law_name" (defArgs s__law_name) (defBody s__law_name) (defScope s__law_name) .none kV3 dc3 pm3 an3 cd3 ct3), sl3⟩)
    (c3 : PySem.W.codeIn K cd3 "_law_name" = true)
    (k3 : PySem.W.keepIn K (.ref f3) = true)
    (a4 : PySem.W.nsIn K mainGlobals "_law_words" = some (some (.ref f4)))
    (l4 : K.lookup f4 = some ⟨oc4, od4, .func (PySem.W.fnOf "_law_words" "_law_words" (defArgs s__law_words) (defBody s__law_words) (defScope s__law_words) .none kV4 dc4 pm4 an4 cd4 ct4), sl4⟩)
    (c4 : PySem.W.codeIn K cd4 "_law_words" = true)
    (k4 : PySem.W.keepIn K (.ref f4) = true)
    (a5 : PySem.W.nsIn K mainGlobals "_law_moves" = some (some (.ref f5)))
    (l5 : K.lookup f5 = some ⟨oc5, od5, .func (PySem.W.fnOf "_law_moves" "_law_moves" (defArgs s__law_moves) (defBody s__law_moves) (defScope s__law_moves) .none kV5 dc5 pm5 an5 cd5 ct5), sl5⟩)
    (c5 : PySem.W.codeIn K cd5 "_law_moves" = true)
    (k5 : PySem.W.keepIn K (.ref f5) = true)
    (a6 : PySem.W.nsIn K mainGlobals "_law_pages" = some (some (.ref f6)))
    (l6 : K.lookup f6 = some ⟨oc6, od6, .func (PySem.W.fnOf "_law_pages" "_law_pages" (defArgs s__law_pages) (defBody s__law_pages) (defScope s__law_pages) .none kV6 dc6 pm6 an6 cd6 ct6), sl6⟩)
    (c6 : PySem.W.codeIn K cd6 "_law_pages" = true)
    (k6 : PySem.W.keepIn K (.ref f6) = true)
    (a7 : PySem.W.nsIn K mainGlobals "_law_turned" = some (some (.ref f7)))
    (l7 : K.lookup f7 = some ⟨oc7, od7, .func (PySem.W.fnOf "_law_turned" "_law_turned" (defArgs s__law_turned) (defBody s__law_turned) (defScope s__law_turned) .none kV7 dc7 pm7 an7 cd7 ct7), sl7⟩)
    (c7 : PySem.W.codeIn K cd7 "_law_turned" = true)
    (k7 : PySem.W.keepIn K (.ref f7) = true)
    (a8 : PySem.W.nsIn K mainGlobals "is_integer" = some (some (.ref f8)))
    (l8 : K.lookup f8 = some ⟨oc8, od8, .func (PySem.W.fnOf "is_integer" "is_integer" (defArgs s_is_integer) (defBody s_is_integer) (defScope s_is_integer) .none kV8 dc8 pm8 an8 cd8 ct8), sl8⟩)
    (c8 : PySem.W.codeIn K cd8 "is_integer" = true)
    (k8 : PySem.W.keepIn K (.ref f8) = true)
    (a9 : PySem.W.nsIn K mainGlobals "is_number" = some (some (.ref f9)))
    (l9 : K.lookup f9 = some ⟨oc9, od9, .func (PySem.W.fnOf "is_number" "is_number" (defArgs s_is_number) (defBody s_is_number) (defScope s_is_number) .none kV9 dc9 pm9 an9 cd9 ct9), sl9⟩)
    (c9 : PySem.W.codeIn K cd9 "is_number" = true)
    (k9 : PySem.W.keepIn K (.ref f9) = true)
    (a10 : PySem.W.nsIn K mainGlobals "is_row" = some (some (.ref f10)))
    (l10 : K.lookup f10 = some ⟨oc10, od10, .func (PySem.W.fnOf "is_row" "is_row" (defArgs s_is_row) (defBody s_is_row) (defScope s_is_row) .none kV10 dc10 pm10 an10 cd10 ct10), sl10⟩)
    (c10 : PySem.W.codeIn K cd10 "is_row" = true)
    (k10 : PySem.W.keepIn K (.ref f10) = true)
    (a11 : PySem.W.nsIn K mainGlobals "is_name" = some (some (.ref f11)))
    (l11 : K.lookup f11 = some ⟨oc11, od11, .func (PySem.W.fnOf "is_name" "is_name" (defArgs s_is_name) (defBody s_is_name) (defScope s_is_name) .none kV11 dc11 pm11 an11 cd11 ct11), sl11⟩)
    (c11 : PySem.W.codeIn K cd11 "is_name" = true)
    (k11 : PySem.W.keepIn K (.ref f11) = true)
    (a12 : PySem.W.nsIn K mainGlobals "is_step" = some (some (.ref f12)))
    (l12 : K.lookup f12 = some ⟨oc12, od12, .func (PySem.W.fnOf "is_step" "is_step" (defArgs s_is_step) (defBody s_is_step) (defScope s_is_step) .none kV12 dc12 pm12 an12 cd12 ct12), sl12⟩)
    (c12 : PySem.W.codeIn K cd12 "is_step" = true)
    (k12 : PySem.W.keepIn K (.ref f12) = true)
    (a13 : PySem.W.nsIn K mainGlobals "check_steps" = some (some (.ref f13)))
    (l13 : K.lookup f13 = some ⟨oc13, od13, .func (PySem.W.fnOf "check_steps" "check_steps" (defArgs s_check_steps) (defBody s_check_steps) (defScope s_check_steps) .none kV13 dc13 pm13 an13 cd13 ct13), sl13⟩)
    (c13 : PySem.W.codeIn K cd13 "check_steps" = true)
    (k13 : PySem.W.keepIn K (.ref f13) = true)
    (a14 : PySem.W.findIn K (.ref C_Walk) "__init__" = some (some (.ref f14)))
    (i14 : PySem.W.isFn K (.ref f14) = true)
    (l14 : K.lookup f14 = some ⟨oc14, od14, .func (PySem.W.fnOf "__init__" "Walk.__init__" (defArgs s_Walk___init__) (defBody s_Walk___init__) (defScope s_Walk___init__) .none kV14 dc14 pm14 an14 cd14 ct14), sl14⟩)
    (c14 : PySem.W.codeIn K cd14 "Walk.__init__" = true)
    (k14 : PySem.W.keepIn K (.ref f14) = true)
    (a15 : PySem.W.nsIn K mainGlobals "_law_walk" = some (some (.ref f15)))
    (l15 : K.lookup f15 = some ⟨oc15, od15, .func (PySem.W.fnOf "_law_walk" "_law_walk" (defArgs s__law_walk) (defBody s__law_walk) (defScope s__law_walk) .none kV15 dc15 pm15 an15 cd15 ct15), sl15⟩)
    (c15 : PySem.W.codeIn K cd15 "_law_walk" = true)
    (k15 : PySem.W.keepIn K (.ref f15) = true)
    (a16 : PySem.W.nsIn K mainGlobals "_law_rule" = some (some (.ref f16)))
    (l16 : K.lookup f16 = some ⟨oc16, od16, .func (PySem.W.fnOf "_law_rule" "_law_rule" (defArgs s__law_rule) (defBody s__law_rule) (defScope s__law_rule) .none kV16 dc16 pm16 an16 cd16 ct16), sl16⟩)
    (c16 : PySem.W.codeIn K cd16 "_law_rule" = true)
    (k16 : PySem.W.keepIn K (.ref f16) = true)
    (a17 : PySem.W.findIn K (.ref C_Walk) "__len__" = some (some (.ref f17)))
    (i17 : PySem.W.isFn K (.ref f17) = true)
    (l17 : K.lookup f17 = some ⟨oc17, od17, .func (PySem.W.fnOf "__len__" "Walk.__len__" (defArgs s_Walk___len__) (defBody s_Walk___len__) (defScope s_Walk___len__) .none kV17 dc17 pm17 an17 cd17 ct17), sl17⟩)
    (c17 : PySem.W.codeIn K cd17 "Walk.__len__" = true)
    (k17 : PySem.W.keepIn K (.ref f17) = true)
    (a18 : PySem.W.findIn K (.ref C_Walk) "__repr__" = some (some (.ref f18)))
    (i18 : PySem.W.isFn K (.ref f18) = true)
    (l18 : K.lookup f18 = some ⟨oc18, od18, .func (PySem.W.fnOf "__repr__" "Walk.__repr__" (defArgs s_Walk___repr__) (defBody s_Walk___repr__) (defScope s_Walk___repr__) .none kV18 dc18 pm18 an18 cd18 ct18), sl18⟩)
    (c18 : PySem.W.codeIn K cd18 "Walk.__repr__" = true)
    (k18 : PySem.W.keepIn K (.ref f18) = true)
    (a19 : PySem.W.nsIn K mainGlobals "_law_shown" = some (some (.ref f19)))
    (l19 : K.lookup f19 = some ⟨oc19, od19, .func (PySem.W.fnOf "_law_shown" "_law_shown" (defArgs s__law_shown) (defBody s__law_shown) (defScope s__law_shown) .none kV19 dc19 pm19 an19 cd19 ct19), sl19⟩)
    (c19 : PySem.W.codeIn K cd19 "_law_shown" = true)
    (k19 : PySem.W.keepIn K (.ref f19) = true)
    (a20 : PySem.W.findIn K (.ref C_Walk) "__eq__" = some (some (.ref f20)))
    (i20 : PySem.W.isFn K (.ref f20) = true)
    (l20 : K.lookup f20 = some ⟨oc20, od20, .func (PySem.W.fnOf "__eq__" "Walk.__eq__" (defArgs s_Walk___eq__) (defBody s_Walk___eq__) (defScope s_Walk___eq__) .none kV20 dc20 pm20 an20 cd20 ct20), sl20⟩)
    (c20 : PySem.W.codeIn K cd20 "Walk.__eq__" = true)
    (k20 : PySem.W.keepIn K (.ref f20) = true)
    (a21 : PySem.W.nsIn K mainGlobals "_law_apart" = some (some (.ref f21)))
    (l21 : K.lookup f21 = some ⟨oc21, od21, .func (PySem.W.fnOf "_law_apart" "_law_apart" (defArgs s__law_apart) (defBody s__law_apart) (defScope s__law_apart) .none kV21 dc21 pm21 an21 cd21 ct21), sl21⟩)
    (c21 : PySem.W.codeIn K cd21 "_law_apart" = true)
    (k21 : PySem.W.keepIn K (.ref f21) = true)
    (a22 : PySem.W.nsIn K mainGlobals "_law_rule_right" = some (some (.ref f22)))
    (l22 : K.lookup f22 = some ⟨oc22, od22, .func (PySem.W.fnOf "_law_rule_right" "_law_rule_right" (defArgs s__law_rule_right) (defBody s__law_rule_right) (defScope s__law_rule_right) .none kV22 dc22 pm22 an22 cd22 ct22), sl22⟩)
    (c22 : PySem.W.codeIn K cd22 "_law_rule_right" = true)
    (k22 : PySem.W.keepIn K (.ref f22) = true)
    (a23 : PySem.W.nsIn K mainGlobals "check_names" = some (some (.ref f23)))
    (l23 : K.lookup f23 = some ⟨oc23, od23, .func (PySem.W.fnOf "check_names" "check_names" (defArgs s_check_names) (defBody s_check_names) (defScope s_check_names) .none kV23 dc23 pm23 an23 cd23 ct23), sl23⟩)
    (c23 : PySem.W.codeIn K cd23 "check_names" = true)
    (k23 : PySem.W.keepIn K (.ref f23) = true)
    (a24 : PySem.W.nsIn K mainGlobals "rule_of" = some (some (.ref f24)))
    (l24 : K.lookup f24 = some ⟨oc24, od24, .func (PySem.W.fnOf "rule_of" "rule_of" (defArgs s_rule_of) (defBody s_rule_of) (defScope s_rule_of) .none kV24 dc24 pm24 an24 cd24 ct24), sl24⟩)
    (c24 : PySem.W.codeIn K cd24 "rule_of" = true)
    (k24 : PySem.W.keepIn K (.ref f24) = true)
    (rd_Walk : PySem.W.readsIn K C_Walk (.type "type") = true)
    (ga_Walk : PySem.W.specialIn K (.ref C_Walk) "__getattribute__" = some (some (.builtin "type.__getattribute__")))
    (a25 : PySem.W.findCls K (.ref C_Walk) (.type "type") "along" = some (.get (.builtin "staticmethod.__get__") (.ref p25) .none (.ref C_Walk)))
    (r25 : PySem.W.recIn K p25 "staticmethod" = some (.ref f25 :: rs25))
    (l25 : K.lookup f25 = some ⟨oc25, od25, .func (PySem.W.fnOf "along" "Walk.along" (defArgs s_Walk_along) (defBody s_Walk_along) (defScope s_Walk_along) .none kV25 dc25 pm25 an25 cd25 ct25), sl25⟩)
    (c25 : PySem.W.codeIn K cd25 "Walk.along" = true)
    (k25 : PySem.W.keepIn K (.ref f25) = true)
    (a26 : PySem.W.nsIn K mainGlobals "_law_along" = some (some (.ref f26)))
    (l26 : K.lookup f26 = some ⟨oc26, od26, .func (PySem.W.fnOf "_law_along" "_law_along" (defArgs s__law_along) (defBody s__law_along) (defScope s__law_along) .none kV26 dc26 pm26 an26 cd26 ct26), sl26⟩)
    (c26 : PySem.W.codeIn K cd26 "_law_along" = true)
    (k26 : PySem.W.keepIn K (.ref f26) = true)
    (a27 : PySem.W.findCls K (.ref C_Walk) (.type "type") "against" = some (.get (.builtin "staticmethod.__get__") (.ref p27) .none (.ref C_Walk)))
    (r27 : PySem.W.recIn K p27 "staticmethod" = some (.ref f27 :: rs27))
    (l27 : K.lookup f27 = some ⟨oc27, od27, .func (PySem.W.fnOf "against" "Walk.against" (defArgs s_Walk_against) (defBody s_Walk_against) (defScope s_Walk_against) .none kV27 dc27 pm27 an27 cd27 ct27), sl27⟩)
    (c27 : PySem.W.codeIn K cd27 "Walk.against" = true)
    (k27 : PySem.W.keepIn K (.ref f27) = true)
    (a28 : PySem.W.nsIn K mainGlobals "_law_against" = some (some (.ref f28)))
    (l28 : K.lookup f28 = some ⟨oc28, od28, .func (PySem.W.fnOf "_law_against" "_law_against" (defArgs s__law_against) (defBody s__law_against) (defScope s__law_against) .none kV28 dc28 pm28 an28 cd28 ct28), sl28⟩)
    (c28 : PySem.W.codeIn K cd28 "_law_against" = true)
    (k28 : PySem.W.keepIn K (.ref f28) = true)
    (a29 : PySem.W.nsIn K mainGlobals "_law_names_right" = some (some (.ref f29)))
    (l29 : K.lookup f29 = some ⟨oc29, od29, .func (PySem.W.fnOf "_law_names_right" "_law_names_right" (defArgs s__law_names_right) (defBody s__law_names_right) (defScope s__law_names_right) .none kV29 dc29 pm29 an29 cd29 ct29), sl29⟩)
    (c29 : PySem.W.codeIn K cd29 "_law_names_right" = true)
    (k29 : PySem.W.keepIn K (.ref f29) = true)
    (a30 : PySem.W.nsIn K mainGlobals "law" = some (some (.ref f30)))
    (l30 : K.lookup f30 = some ⟨oc30, od30, .func (PySem.W.fnOf "law" "law" (defArgs s_law) (defBody s_law) (defScope s_law) .none kV30 dc30 pm30 an30 cd30 ct30), sl30⟩)
    (c30 : PySem.W.codeIn K cd30 "law" = true)
    (k30 : PySem.W.keepIn K (.ref f30) = true)
    (z_int : PySem.W.nsIn K mainGlobals "int" = some none)
    (z_abs : PySem.W.nsIn K mainGlobals "abs" = some none)
    (z_len : PySem.W.nsIn K mainGlobals "len" = some none)
    (z_divmod : PySem.W.nsIn K mainGlobals "divmod" = some none)
    (z_range : PySem.W.nsIn K mainGlobals "range" = some none)
    (z_list : PySem.W.nsIn K mainGlobals "list" = some none)
    (z_tuple : PySem.W.nsIn K mainGlobals "tuple" = some none)
    (z_isinstance : PySem.W.nsIn K mainGlobals "isinstance" = some none)
    (z_bool : PySem.W.nsIn K mainGlobals "bool" = some none)
    (z_str : PySem.W.nsIn K mainGlobals "str" = some none)
    (z_all : PySem.W.nsIn K mainGlobals "all" = some none)
    (z_enumerate : PySem.W.nsIn K mainGlobals "enumerate" = some none)
    (z_sorted : PySem.W.nsIn K mainGlobals "sorted" = some none)
    (z_repr : PySem.W.nsIn K mainGlobals "repr" = some none)
    (z_max : PySem.W.nsIn K mainGlobals "max" = some none)
    (z_min : PySem.W.nsIn K mainGlobals "min" = some none)
    (q_LONGEST : PySem.W.nsIn K mainGlobals "LONGEST" = some (some (.int 8 t_LONGEST)))
    (q_LETTERS : PySem.W.nsIn K mainGlobals "LETTERS" = some (some (.str "abcdefghijklmnopqrstuvwxyz" t_LETTERS)))
    (q_SIGNS : PySem.W.nsIn K mainGlobals "SIGNS" = some (some (.str "abcdefghijklmnopqrstuvwxyz0123456789" t_SIGNS)))
    (q_ALONG : PySem.W.nsIn K mainGlobals "ALONG" = some (some (.str "along" t_ALONG)))
    (q_AGAINST : PySem.W.nsIn K mainGlobals "AGAINST" = some (some (.str "against" t_AGAINST)))
    (q_MOST_STEPS : PySem.W.nsIn K mainGlobals "MOST_STEPS" = some (some (.int 12 t_MOST_STEPS)))
    (q_MOST_STATES : PySem.W.nsIn K mainGlobals "MOST_STATES" = some (some (.int 3 t_MOST_STATES)))
    : ∃ fd : FuncData, (∀ (s : Shared) (v : Value), BindsTo s fd ⟨[v], []⟩ [("_law_cells", v)]) ∧ ∀ base : Heap, K.In base → base.Ns mainGlobals mg → Pg.FnG P w K mg base 11 fa fd ["_law_cells"] (spL K) := by
  have e := hfa.symm.trans (PySem.W.mg_of X G a30)
  cases e
  have T : Txt K mg (Ca.mk C_Walk) := ⟨PySem.W.mg_none_of X G z_int,
    PySem.W.mg_none_of X G z_abs,
    PySem.W.mg_none_of X G z_len,
    PySem.W.mg_none_of X G z_divmod,
    PySem.W.mg_none_of X G z_range,
    PySem.W.mg_none_of X G z_list,
    PySem.W.mg_none_of X G z_tuple,
    PySem.W.mg_none_of X G z_isinstance,
    PySem.W.mg_none_of X G z_bool,
    PySem.W.mg_none_of X G z_str,
    PySem.W.mg_none_of X G z_all,
    PySem.W.mg_none_of X G z_enumerate,
    PySem.W.mg_none_of X G z_sorted,
    PySem.W.mg_none_of X G z_repr,
    PySem.W.mg_none_of X G z_max,
    PySem.W.mg_none_of X G z_min,
    ⟨_, PySem.W.mg_of X G q_LONGEST, ⟨_, rfl⟩⟩,
    ⟨_, PySem.W.mg_of X G q_LETTERS, ⟨_, rfl⟩⟩,
    ⟨_, PySem.W.mg_of X G q_SIGNS, ⟨_, rfl⟩⟩,
    ⟨_, PySem.W.mg_of X G q_ALONG, ⟨_, rfl⟩⟩,
    ⟨_, PySem.W.mg_of X G q_AGAINST, ⟨_, rfl⟩⟩,
    ⟨_, PySem.W.mg_of X G q_MOST_STEPS, ⟨_, rfl⟩⟩,
    ⟨_, PySem.W.mg_of X G q_MOST_STATES, ⟨_, rfl⟩⟩,
    ⟨_, PySem.W.mg_of X G aC_Walk, rfl⟩,
    ⟨⟨⟨pg_Walk, hd_Walk, po_Walk, sa_Walk⟩, ha_Walk, hn, htk, hm_Walk, hmt_Walk, ne_Walk, kc_of kcl_Walk kty_Walk⟩, hN_Walk, hi_Walk, hb_Walk, hs_Walk⟩,
    nb_Walk,
    nf_Walk_states,
    nf_Walk_steps⟩
  have F0 := fun_mk (st := s__law_pool) l0 c0 k0
  have b0 := F0.binds (ps := ["_law_cell_here"]) fun _ _ _ _ _ _ us hl => match us, hl with | [_], _ => rfl
  have h__law_pool : ∀ base : Heap, Cl P w K mg base 1 "_law_pool" (spM K 1 [none] (c__law_pool (Ca.mk C_Walk))) := fun base => ⟨_, _, _, ok__law_pool F0 T , PySem.W.mg_of X G a0, k0, b0⟩
  have F1 := fun_mk (st := s__law_cell) l1 c1 k1
  have b1 := F1.binds (ps := ["_law_cells", "_law_k"]) fun _ _ _ _ _ _ us hl => match us, hl with | [_, _], _ => rfl
  have h__law_cell : ∀ base : Heap, Cl P w K mg base 1 "_law_cell" (spM K 2 [none, none] (c__law_cell (Ca.mk C_Walk))) := fun base => ⟨_, _, _, ok__law_cell F1 T , PySem.W.mg_of X G a1, k1, b1⟩
  have F2 := fun_mk (st := s__law_draw) l2 c2 k2
  have b2 := F2.binds (ps := ["_law_pool_here", "_law_many"]) fun _ _ _ _ _ _ us hl => match us, hl with | [_, _], _ => rfl
  have h__law_draw : ∀ base : Heap, Cl P w K mg base 1 "_law_draw" (spM K 2 [some 0, none] (c__law_draw (Ca.mk C_Walk))) := fun base => ⟨_, _, _, ok__law_draw F2 T , PySem.W.mg_of X G a2, k2, b2⟩
  have F3 := fun_mk (st := s__law_name) l3 c3 k3
  have b3 := F3.binds (ps := ["_law_pool_here", "_law_fewest", "_law_most"]) fun _ _ _ _ _ _ us hl => match us, hl with | [_, _, _], _ => rfl
  have h__law_name : ∀ base : Heap, Cl P w K mg base 2 "_law_name" (spM K 3 [some 0, none, none] (c__law_name (Ca.mk C_Walk))) := fun base => ⟨_, _, _, ok__law_name F3 T (h__law_draw base), PySem.W.mg_of X G a3, k3, b3⟩
  have F4 := fun_mk (st := s__law_words) l4 c4 k4
  have b4 := F4.binds (ps := ["_law_pool_here"]) fun _ _ _ _ _ _ us hl => match us, hl with | [_], _ => rfl
  have h__law_words : ∀ base : Heap, Cl P w K mg base 3 "_law_words" (spM K 1 [some 0] (c__law_words (Ca.mk C_Walk))) := fun base => ⟨_, _, _, ok__law_words F4 T (h__law_name base) (h__law_draw base), PySem.W.mg_of X G a4, k4, b4⟩
  have F5 := fun_mk (st := s__law_moves) l5 c5 k5
  have b5 := F5.binds (ps := ["_law_pool_here", "_law_stages", "_law_words_here"]) fun _ _ _ _ _ _ us hl => match us, hl with | [_, _, _], _ => rfl
  have h__law_moves : ∀ base : Heap, Cl P w K mg base 2 "_law_moves" (spM K 3 [some 0, none, none] (c__law_moves (Ca.mk C_Walk))) := fun base => ⟨_, _, _, ok__law_moves F5 T (h__law_draw base), PySem.W.mg_of X G a5, k5, b5⟩
  have F6 := fun_mk (st := s__law_pages) l6 c6 k6
  have b6 := F6.binds (ps := ["_law_pool_here", "_law_many", "_law_wanted"]) fun _ _ _ _ _ _ us hl => match us, hl with | [_, _, _], _ => rfl
  have h__law_pages : ∀ base : Heap, Cl P w K mg base 2 "_law_pages" (spM K 3 [some 0, none, none] (c__law_pages (Ca.mk C_Walk))) := fun base => ⟨_, _, _, ok__law_pages F6 T (h__law_draw base), PySem.W.mg_of X G a6, k6, b6⟩
  have F7 := fun_mk (st := s__law_turned) l7 c7 k7
  have b7 := F7.binds (ps := ["_law_pool_here", "_law_row"]) fun _ _ _ _ _ _ us hl => match us, hl with | [_, _], _ => rfl
  have h__law_turned : ∀ base : Heap, Cl P w K mg base 3 "_law_turned" (spM K 2 [some 0, none] (c__law_turned (Ca.mk C_Walk))) := fun base => ⟨_, _, _, ok__law_turned F7 T (h__law_pages base), PySem.W.mg_of X G a7, k7, b7⟩
  have F8 := fun_mk (st := s_is_integer) l8 c8 k8
  have b8 := F8.binds (ps := ["value"]) fun _ _ _ _ _ _ us hl => match us, hl with | [_], _ => rfl
  have h_is_integer : ∀ base : Heap, Cl P w K mg base 1 "is_integer" (spM K 1 [none] (c_is_integer (Ca.mk C_Walk))) := fun base => ⟨_, _, _, ok_is_integer F8 T , PySem.W.mg_of X G a8, k8, b8⟩
  have F9 := fun_mk (st := s_is_number) l9 c9 k9
  have b9 := F9.binds (ps := ["value", "least", "most"]) fun _ _ _ _ _ _ us hl => match us, hl with | [_, _, _], _ => rfl
  have h_is_number : ∀ base : Heap, Cl P w K mg base 2 "is_number" (spM K 3 [none, none, none] (c_is_number (Ca.mk C_Walk))) := fun base => ⟨_, _, _, ok_is_number F9 T (h_is_integer base), PySem.W.mg_of X G a9, k9, b9⟩
  have F10 := fun_mk (st := s_is_row) l10 c10 k10
  have b10 := F10.binds (ps := ["value", "length"]) fun _ _ _ _ _ _ us hl => match us, hl with | [_, _], _ => rfl
  have h_is_row : ∀ base : Heap, Cl P w K mg base 1 "is_row" (spM K 2 [none, none] (c_is_row (Ca.mk C_Walk))) := fun base => ⟨_, _, _, ok_is_row F10 T , PySem.W.mg_of X G a10, k10, b10⟩
  have F11 := fun_mk (st := s_is_name) l11 c11 k11
  have b11 := F11.binds (ps := ["value"]) fun _ _ _ _ _ _ us hl => match us, hl with | [_], _ => rfl
  have h_is_name : ∀ base : Heap, Cl P w K mg base 1 "is_name" (spM K 1 [none] (c_is_name (Ca.mk C_Walk))) := fun base => ⟨_, _, _, ok_is_name F11 T , PySem.W.mg_of X G a11, k11, b11⟩
  have F12 := fun_mk (st := s_is_step) l12 c12 k12
  have b12 := F12.binds (ps := ["states", "value"]) fun _ _ _ _ _ _ us hl => match us, hl with | [_, _], _ => rfl
  have h_is_step : ∀ base : Heap, Cl P w K mg base 3 "is_step" (spM K 2 [none, none] (c_is_step (Ca.mk C_Walk))) := fun base => ⟨_, _, _, ok_is_step F12 T (h_is_name base) (h_is_row base) (h_is_number base), PySem.W.mg_of X G a12, k12, b12⟩
  have F13 := fun_mk (st := s_check_steps) l13 c13 k13
  have b13 := F13.binds (ps := ["states", "value"]) fun _ _ _ _ _ _ us hl => match us, hl with | [_, _], _ => rfl
  have h_check_steps : ∀ base : Heap, Cl P w K mg base 4 "check_steps" (spM K 2 [none, none] (c_check_steps (Ca.mk C_Walk))) := fun base => ⟨_, _, _, ok_check_steps F13 T (h_is_step base), PySem.W.mg_of X G a13, k13, b13⟩
  have F14 := fun_mk (st := s_Walk___init__) l14 c14 k14
  have S_Walk___init__ : ∀ base : Heap, StarOk P w K mg base L2.CX0 5 f14 _ ["self", "states"] "steps" (spM K 3 [some 0, none, none] (c_Walk___init__ (Ca.mk C_Walk))) := fun base => ok_Walk___init__ F14 T (h_is_number base) (h_check_steps base)
  have M_Walk : Mk K C_Walk f14 := ⟨mk_Walk, a14, i14, kc_Walk⟩
  have u_Walk___init__ : ∀ base : Heap, ClUI P w K mg base 5 C_Walk "Walk" [] (arrS 1) (c_Walk___init__ (Ca.mk C_Walk)) := fun base => ⟨_, _, fnU_star (S_Walk___init__ base) (StX.bind_star2 (B := fun l => bindArgs _ ⟨l, []⟩) (fun a0 a1 => rfl) (fun a0 a1 r rs => rfl)), iok_star, M_Walk, PySem.W.mg_of X G aC_Walk⟩
  have u_Walk___init___0_states : ∀ base : Heap, ClUI P w K mg base 5 C_Walk "Walk" ["states"] (arrPS 1 [0]) (c_Walk___init__ (Ca.mk C_Walk)) := fun base => ⟨_, _, fnU_starK (n := 2) (pk := [0, 1]) (np := 1) (S_Walk___init__ base) (fun us ws h1 h2 => match us, ws, h1, h2 with | [_], [_], _, _ => rfl), iok_starK, M_Walk, PySem.W.mg_of X G aC_Walk⟩
  have F15 := fun_mk (st := s__law_walk) l15 c15 k15
  have b15 := F15.binds (ps := ["_law_stages", "_law_s"]) fun _ _ _ _ _ _ us hl => match us, hl with | [_, _], _ => rfl
  have h__law_walk : ∀ base : Heap, Cl P w K mg base 7 "_law_walk" (spM K 2 [none, none] (c__law_walk (Ca.mk C_Walk))) := fun base => ⟨_, _, _, ok__law_walk F15 T (u_Walk___init__ base), PySem.W.mg_of X G a15, k15, b15⟩
  have F16 := fun_mk (st := s__law_rule) l16 c16 k16
  have b16 := F16.binds (ps := ["_law_stages", "_law_s"]) fun _ _ _ _ _ _ us hl => match us, hl with | [_, _], _ => rfl
  have h__law_rule : ∀ base : Heap, Cl P w K mg base 8 "_law_rule" (spM K 2 [none, none] (c__law_rule (Ca.mk C_Walk))) := fun base => ⟨_, _, _, ok__law_rule F16 T (h__law_walk base) (u_Walk___init__ base), PySem.W.mg_of X G a16, k16, b16⟩
  have F17 := fun_mk (st := s_Walk___len__) l17 c17 k17
  have b17 := F17.binds (ps := ["self"]) fun _ _ _ _ _ _ us hl => match us, hl with | [_], _ => rfl
  have h_Walk___len__ : ∀ base : Heap, ClM P w K mg base 1 C_Walk "__len__" (spM K 1 [none] (c_Walk___len__ (Ca.mk C_Walk))) := fun base => ⟨_, _, _, ok_Walk___len__ F17 T , ⟨a17, i17, k17⟩, b17⟩
  have F18 := fun_mk (st := s_Walk___repr__) l18 c18 k18
  have b18 := F18.binds (ps := ["self"]) fun _ _ _ _ _ _ us hl => match us, hl with | [_], _ => rfl
  have h_Walk___repr__ : ∀ base : Heap, ClM P w K mg base 1 C_Walk "__repr__" (spM K 1 [none] (c_Walk___repr__ (Ca.mk C_Walk))) := fun base => ⟨_, _, _, ok_Walk___repr__ F18 T , ⟨a18, i18, k18⟩, b18⟩
  have F19 := fun_mk (st := s__law_shown) l19 c19 k19
  have b19 := F19.binds (ps := ["_law_mine", "_law_stages", "_law_moves_here"]) fun _ _ _ _ _ _ us hl => match us, hl with | [_, _, _], _ => rfl
  have h__law_shown : ∀ base : Heap, ClG P w K mg base 5 "_law_shown" (spM K 3 [none, none, none] (c__law_shown (Ca.mk C_Walk))) := fun base => ⟨_, _, _, ok__law_shown F19 T (h_Walk___len__ base) (h_Walk___repr__ base), PySem.W.mg_of X G a19, k19, b19⟩
  have F20 := fun_mk (st := s_Walk___eq__) l20 c20 k20
  have b20 := F20.binds (ps := ["self", "other"]) fun _ _ _ _ _ _ us hl => match us, hl with | [_, _], _ => rfl
  have h_Walk___eq__ : ∀ base : Heap, ClM P w K mg base 1 C_Walk "__eq__" (spM K 2 [none, none] (c_Walk___eq__ (Ca.mk C_Walk))) := fun base => ⟨_, _, _, ok_Walk___eq__ F20 T , ⟨a20, i20, k20⟩, b20⟩
  have F21 := fun_mk (st := s__law_apart) l21 c21 k21
  have b21 := F21.binds (ps := ["_law_one", "_law_two"]) fun _ _ _ _ _ _ us hl => match us, hl with | [_, _], _ => rfl
  have h__law_apart : ∀ base : Heap, Cl P w K mg base 5 "_law_apart" (spM K 2 [none, none] (c__law_apart (Ca.mk C_Walk))) := fun base => ⟨_, _, _, ok__law_apart F21 T (h_Walk___eq__ base), PySem.W.mg_of X G a21, k21, b21⟩
  have F22 := fun_mk (st := s__law_rule_right) l22 c22 k22
  have b22 := F22.binds (ps := ["_law_pool_here"]) fun _ _ _ _ _ _ us hl => match us, hl with | [_], _ => rfl
  have h__law_rule_right : ∀ base : Heap, ClG P w K mg base 9 "_law_rule_right" (spM K 1 [some 0] (c__law_rule_right (Ca.mk C_Walk))) := fun base => ⟨_, _, _, ok__law_rule_right F22 T (h__law_draw base) (h__law_words base) (h__law_moves base) (h__law_name base) (h__law_turned base) (h__law_rule base) (h__law_shown base) (h_Walk___eq__ base) (h_Walk___repr__ base) (h__law_apart base) (u_Walk___init___0_states base), PySem.W.mg_of X G a22, k22, b22⟩
  have F23 := fun_mk (st := s_check_names) l23 c23 k23
  have b23 := F23.binds (ps := ["value", "least", "most"]) fun _ _ _ _ _ _ us hl => match us, hl with | [_, _, _], _ => rfl
  have h_check_names : ∀ base : Heap, Cl P w K mg base 2 "check_names" (spM K 3 [none, none, none] (c_check_names (Ca.mk C_Walk))) := fun base => ⟨_, _, _, ok_check_names F23 T (h_is_name base), PySem.W.mg_of X G a23, k23, b23⟩
  have F24 := fun_mk (st := s_rule_of) l24 c24 k24
  have b24 := F24.binds (ps := ["way", "names"]) fun _ _ _ _ _ _ us hl => match us, hl with | [_, _], _ => rfl
  have h_rule_of : ∀ base : Heap, Cl P w K mg base 7 "rule_of" (spM K 2 [none, none] (c_rule_of (Ca.mk C_Walk))) := fun base => ⟨_, _, _, ok_rule_of F24 T (h_check_names base) (u_Walk___init__ base), PySem.W.mg_of X G a24, k24, b24⟩
  have F25 := fun_mk (st := s_Walk_along) l25 c25 k25
  have S_Walk_along : ∀ base : Heap, StarOk P w K mg base L2.CX0 8 f25 _ [] "names" (spM K 1 [none] (c_Walk_along (Ca.mk C_Walk))) := fun base => ok_Walk_along F25 T (h_rule_of base)
  have u_Walk_along : ∀ base : Heap, ClUS P w K mg base 8 C_Walk "along" [] (arrS 0) (c_Walk_along (Ca.mk C_Walk)) := fun base => ⟨_, _, _, fnU_star (S_Walk_along base) (bind_star0 (B := fun l => bindArgs _ ⟨l, []⟩) (rfl) (fun  r rs => rfl)), uok_star, ⟨⟨rd_Walk, ga_Walk⟩, a25, ⟨_, r25⟩, k25⟩⟩
  have F26 := fun_mk (st := s__law_along) l26 c26 k26
  have b26 := F26.binds (ps := ["_law_s"]) fun _ _ _ _ _ _ us hl => match us, hl with | [_], _ => rfl
  have h__law_along : ∀ base : Heap, Cl P w K mg base 9 "_law_along" (spM K 1 [none] (c__law_along (Ca.mk C_Walk))) := fun base => ⟨_, _, _, ok__law_along F26 T (u_Walk_along base), PySem.W.mg_of X G a26, k26, b26⟩
  have F27 := fun_mk (st := s_Walk_against) l27 c27 k27
  have S_Walk_against : ∀ base : Heap, StarOk P w K mg base L2.CX0 8 f27 _ [] "names" (spM K 1 [none] (c_Walk_against (Ca.mk C_Walk))) := fun base => ok_Walk_against F27 T (h_rule_of base)
  have u_Walk_against : ∀ base : Heap, ClUS P w K mg base 8 C_Walk "against" [] (arrS 0) (c_Walk_against (Ca.mk C_Walk)) := fun base => ⟨_, _, _, fnU_star (S_Walk_against base) (bind_star0 (B := fun l => bindArgs _ ⟨l, []⟩) (rfl) (fun  r rs => rfl)), uok_star, ⟨⟨rd_Walk, ga_Walk⟩, a27, ⟨_, r27⟩, k27⟩⟩
  have F28 := fun_mk (st := s__law_against) l28 c28 k28
  have b28 := F28.binds (ps := ["_law_s"]) fun _ _ _ _ _ _ us hl => match us, hl with | [_], _ => rfl
  have h__law_against : ∀ base : Heap, Cl P w K mg base 9 "_law_against" (spM K 1 [none] (c__law_against (Ca.mk C_Walk))) := fun base => ⟨_, _, _, ok__law_against F28 T (u_Walk_against base), PySem.W.mg_of X G a28, k28, b28⟩
  have F29 := fun_mk (st := s__law_names_right) l29 c29 k29
  have b29 := F29.binds (ps := ["_law_pool_here"]) fun _ _ _ _ _ _ us hl => match us, hl with | [_], _ => rfl
  have h__law_names_right : ∀ base : Heap, ClG P w K mg base 10 "_law_names_right" (spM K 1 [some 0] (c__law_names_right (Ca.mk C_Walk))) := fun base => ⟨_, _, _, ok__law_names_right F29 T (h__law_name base) (h__law_draw base) (h__law_words base) (h__law_turned base) (h__law_along base) (h__law_against base) (h__law_shown base) (h__law_apart base) (h__law_rule base) (h_Walk___eq__ base), PySem.W.mg_of X G a29, k29, b29⟩
  have F30 := fun_mk (st := s_law) l30 c30 k30
  exact ⟨_, fun s v => .of_eq rfl, fun base _ _ => (ok_law F30 T (h__law_pool base) (h__law_cell base) (h__law_names_right base) (h__law_rule_right base)).imp (spL_of (law_true _))⟩
end K21
open PySem PySem.W PyProof.Rows
set_option maxRecDepth 100000 in
set_option maxHeartbeats 0 in
theorem PySem.Challenge.cw_everysite_k21_walk_rules_made_holds : PySem.Challenge.rw_everysite_k21_walk_rules_made.Holds := by
  w_on; o_law; k_head; (case hw => w_witness2)
  k_fill
  refine Pg.walkG_of (l := PySem.Challenge.rw_everysite_k21_walk_rules_made) (n := 63) (k := 11) (x := "_law_cells") (sp := fun w => Qm.spL _) rfl (by decide) rfl ⟨rfl, by decide, by decide⟩ (fun w h Y => PySem.W.kIn_of Y) ?F (fun _ _ a ns hl _ hS => Qm.law_pre hl hS)
  case F =>
    intro w mg fa h KX G hmg
    refine' K21.all_mk KX G hmg ?hn ?htk ?aC_Walk ?pg_Walk ?hd_Walk ?po_Walk ?sa_Walk ?mk_Walk ?kc_Walk ?ha_Walk ?hm_Walk ?hmt_Walk ?hN_Walk ?hi_Walk ?hb_Walk ?hs_Walk ?ne_Walk ?kcl_Walk ?kty_Walk ?nb_Walk ?nf_Walk_states ?nf_Walk_steps ?a0 ?l0 ?c0 ?k0 ?a1 ?l1 ?c1 ?k1 ?a2 ?l2 ?c2 ?k2 ?a3 ?l3 ?c3 ?k3 ?a4 ?l4 ?c4 ?k4 ?a5 ?l5 ?c5 ?k5 ?a6 ?l6 ?c6 ?k6 ?a7 ?l7 ?c7 ?k7 ?a8 ?l8 ?c8 ?k8 ?a9 ?l9 ?c9 ?k9 ?a10 ?l10 ?c10 ?k10 ?a11 ?l11 ?c11 ?k11 ?a12 ?l12 ?c12 ?k12 ?a13 ?l13 ?c13 ?k13 ?a14 ?i14 ?l14 ?c14 ?k14 ?a15 ?l15 ?c15 ?k15 ?a16 ?l16 ?c16 ?k16 ?a17 ?i17 ?l17 ?c17 ?k17 ?a18 ?i18 ?l18 ?c18 ?k18 ?a19 ?l19 ?c19 ?k19 ?a20 ?i20 ?l20 ?c20 ?k20 ?a21 ?l21 ?c21 ?k21 ?a22 ?l22 ?c22 ?k22 ?a23 ?l23 ?c23 ?k23 ?a24 ?l24 ?c24 ?k24 ?rd_Walk ?ga_Walk ?a25 ?r25 ?l25 ?c25 ?k25 ?a26 ?l26 ?c26 ?k26 ?a27 ?r27 ?l27 ?c27 ?k27 ?a28 ?l28 ?c28 ?k28 ?a29 ?l29 ?c29 ?k29 ?a30 ?l30 ?c30 ?k30 ?z_int ?z_abs ?z_len ?z_divmod ?z_range ?z_list ?z_tuple ?z_isinstance ?z_bool ?z_str ?z_all ?z_enumerate ?z_sorted ?z_repr ?z_max ?z_min ?q_LONGEST ?q_LETTERS ?q_SIGNS ?q_ALONG ?q_AGAINST ?q_MOST_STEPS ?q_MOST_STATES
    (case hn => k_is)
    (case htk => k_is)
    (case aC_Walk => k_is)
    (case pg_Walk => k_is)
    (case hd_Walk => k_is)
    (case po_Walk => k_is)
    (case sa_Walk => k_is)
    (case mk_Walk => k_is)
    (case kc_Walk => k_is)
    (case ha_Walk => k_is)
    (case hm_Walk => k_is)
    (case hmt_Walk => k_is)
    (case hN_Walk => k_is)
    (case hi_Walk => k_is)
    (case hb_Walk => k_is)
    (case hs_Walk => k_is)
    (case ne_Walk => k_is)
    (case kcl_Walk => k_is)
    (case kty_Walk => k_is)
    (case nb_Walk => k_is)
    (case nf_Walk_states => k_is)
    (case nf_Walk_steps => k_is)
    (case a0 => k_is)
    (case l0 => k_is)
    (case c0 => k_is)
    (case k0 => k_is)
    (case a1 => k_is)
    (case l1 => k_is)
    (case c1 => k_is)
    (case k1 => k_is)
    (case a2 => k_is)
    (case l2 => k_is)
    (case c2 => k_is)
    (case k2 => k_is)
    (case a3 => k_is)
    (case l3 => k_is)
    (case c3 => k_is)
    (case k3 => k_is)
    (case a4 => k_is)
    (case l4 => k_is)
    (case c4 => k_is)
    (case k4 => k_is)
    (case a5 => k_is)
    (case l5 => k_is)
    (case c5 => k_is)
    (case k5 => k_is)
    (case a6 => k_is)
    (case l6 => k_is)
    (case c6 => k_is)
    (case k6 => k_is)
    (case a7 => k_is)
    (case l7 => k_is)
    (case c7 => k_is)
    (case k7 => k_is)
    (case a8 => k_is)
    (case l8 => k_is)
    (case c8 => k_is)
    (case k8 => k_is)
    (case a9 => k_is)
    (case l9 => k_is)
    (case c9 => k_is)
    (case k9 => k_is)
    (case a10 => k_is)
    (case l10 => k_is)
    (case c10 => k_is)
    (case k10 => k_is)
    (case a11 => k_is)
    (case l11 => k_is)
    (case c11 => k_is)
    (case k11 => k_is)
    (case a12 => k_is)
    (case l12 => k_is)
    (case c12 => k_is)
    (case k12 => k_is)
    (case a13 => k_is)
    (case l13 => k_is)
    (case c13 => k_is)
    (case k13 => k_is)
    (case a14 => k_is)
    (case i14 => k_is)
    (case l14 => k_is)
    (case c14 => k_is)
    (case k14 => k_is)
    (case a15 => k_is)
    (case l15 => k_is)
    (case c15 => k_is)
    (case k15 => k_is)
    (case a16 => k_is)
    (case l16 => k_is)
    (case c16 => k_is)
    (case k16 => k_is)
    (case a17 => k_is)
    (case i17 => k_is)
    (case l17 => k_is)
    (case c17 => k_is)
    (case k17 => k_is)
    (case a18 => k_is)
    (case i18 => k_is)
    (case l18 => k_is)
    (case c18 => k_is)
    (case k18 => k_is)
    (case a19 => k_is)
    (case l19 => k_is)
    (case c19 => k_is)
    (case k19 => k_is)
    (case a20 => k_is)
    (case i20 => k_is)
    (case l20 => k_is)
    (case c20 => k_is)
    (case k20 => k_is)
    (case a21 => k_is)
    (case l21 => k_is)
    (case c21 => k_is)
    (case k21 => k_is)
    (case a22 => k_is)
    (case l22 => k_is)
    (case c22 => k_is)
    (case k22 => k_is)
    (case a23 => k_is)
    (case l23 => k_is)
    (case c23 => k_is)
    (case k23 => k_is)
    (case a24 => k_is)
    (case l24 => k_is)
    (case c24 => k_is)
    (case k24 => k_is)
    (case rd_Walk => k_is)
    (case ga_Walk => k_is)
    (case a25 => k_is)
    (case r25 => k_is)
    (case l25 => k_is)
    (case c25 => k_is)
    (case k25 => k_is)
    (case a26 => k_is)
    (case l26 => k_is)
    (case c26 => k_is)
    (case k26 => k_is)
    (case a27 => k_is)
    (case r27 => k_is)
    (case l27 => k_is)
    (case c27 => k_is)
    (case k27 => k_is)
    (case a28 => k_is)
    (case l28 => k_is)
    (case c28 => k_is)
    (case k28 => k_is)
    (case a29 => k_is)
    (case l29 => k_is)
    (case c29 => k_is)
    (case k29 => k_is)
    (case a30 => k_is)
    (case l30 => k_is)
    (case c30 => k_is)
    (case k30 => k_is)
    (case z_int => k_is)
    (case z_abs => k_is)
    (case z_len => k_is)
    (case z_divmod => k_is)
    (case z_range => k_is)
    (case z_list => k_is)
    (case z_tuple => k_is)
    (case z_isinstance => k_is)
    (case z_bool => k_is)
    (case z_str => k_is)
    (case z_all => k_is)
    (case z_enumerate => k_is)
    (case z_sorted => k_is)
    (case z_repr => k_is)
    (case z_max => k_is)
    (case z_min => k_is)
    (case q_LONGEST => k_is)
    (case q_LETTERS => k_is)
    (case q_SIGNS => k_is)
    (case q_ALONG => k_is)
    (case q_AGAINST => k_is)
    (case q_MOST_STEPS => k_is)
    (case q_MOST_STATES => k_is)
#print axioms PySem.Challenge.cw_everysite_k21_walk_rules_made_holds
