import PyProof.Rows.All
import Wide.All
import OpenK.AllK
import Wide.FinOn
import HandS.ForMost
import HandS.IsInst
import HandS.Wide
import HandS.Deep
import HandS.Walk
import HandS.Evl
import PyProof.ReprRoads
import HandS.Codes
import HandS.TupAny
import HandS.Conv
import HandS.Style
import PySem.Challenge.RW_everysite_k01_names
set_option Elab.async false
set_option linter.all false
set_option maxRecDepth 100000
set_option maxHeartbeats 2000000
namespace Pd
open PySem PySem.Spec PyProof.Rows L2

/-! ### data, and which value of the heap is which datum -/
inductive Dt where
  | non
  | bl (b : Bool)
  | int (i : Int)
  | str (x : Str)
  | tup (ds : List Dt)
  | lst (ds : List Dt)
  | scr (ns : List Int)
  | dct (kvs : List (Key × V))
  | raw (v : V)
  | obj (C : Addr) (fs : List (Str × Dt))

mutual
inductive Dr (K : PySem.W.Frag) (G : Hp) : V → Dt → Prop
  | non : Dr K G .non .non
  | bl (b : Bool) : Dr K G (.bl b) (.bl b)
  | int (i : Int) : Dr K G (.int i) (.int i)
  | str (x : Str) : Dr K G (.str x) (.str x)
  | tup {a : Addr} {xs : List V} {ds : List Dt} : SqT K G a xs → DrAll K G xs ds → Dr K G (.ref a) (.tup ds)
  | lst {a : Addr} {xs : List V} {ds : List Dt} : G a = some (.lst xs) → DrAll K G xs ds → Dr K G (.ref a) (.lst ds)
  | scr {a : Addr} {ns : List Int} : SqL K G a (ns.map V.int) → Dr K G (.ref a) (.scr ns)
  | dct {a : Addr} {kvs : List (Key × V)} : G a = some (.dK kvs) → Dr K G (.ref a) (.dct kvs)
  | raw (v : V) : Dr K G v (.raw v)
  | obj {a C dx : Addr} {fs : List (Str × V)} {fds : List (Str × Dt)} : G a = some (.ins C dx fs) → G dx = some (.own a) → DrFs K G fs fds → Dr K G (.ref a) (.obj C fds)
inductive DrAll (K : PySem.W.Frag) (G : Hp) : List V → List Dt → Prop
  | nil : DrAll K G [] []
  | cons {v : V} {vs : List V} {d : Dt} {ds : List Dt} : Dr K G v d → DrAll K G vs ds → DrAll K G (v :: vs) (d :: ds)
inductive DrFs (K : PySem.W.Frag) (G : Hp) : List (Str × V) → List (Str × Dt) → Prop
  | nil : DrFs K G [] []
  | cons {f : Str} {v : V} {d : Dt} {fs : List (Str × V)} {ds : List (Str × Dt)} : Dr K G v d → DrFs K G fs ds → DrFs K G ((f, v) :: fs) ((f, d) :: ds)
end

section
variable {K : PySem.W.Frag} {G G' H : Hp}
theorem sqT_mono {a : Addr} {xs : List V} (e : Same G G') (h : SqT K G a xs) : SqT K G' a xs := by
  rcases h with (h | ⟨o, h⟩) | h
  · exact .inl (.inl (e _ _ h))
  · exact .inl (.inr ⟨o, e _ _ h⟩)
  · exact .inr h
mutual
theorem Dr.mono (e : Same G G') : ∀ {v : V} {d : Dt}, Dr K G v d → Dr K G' v d
  | _, _, .non => .non
  | _, _, .bl b => .bl b
  | _, _, .int i => .int i
  | _, _, .str x => .str x
  | _, _, .tup h t => .tup (sqT_mono e h) (DrAll.mono e t)
  | _, _, .lst h t => .lst (e _ _ h) (DrAll.mono e t)
  | _, _, .scr h => .scr (e.seq h)
  | _, _, .dct h => .dct (e _ _ h)
  | _, _, .raw v => .raw v
  | _, _, .obj h1 h2 t => .obj (e _ _ h1) (e _ _ h2) (DrFs.mono e t)
theorem DrAll.mono (e : Same G G') : ∀ {vs : List V} {ds : List Dt}, DrAll K G vs ds → DrAll K G' vs ds
  | _, _, .nil => .nil
  | _, _, .cons h t => .cons (Dr.mono e h) (DrAll.mono e t)
theorem DrFs.mono (e : Same G G') : ∀ {fs : List (Str × V)} {ds : List (Str × Dt)}, DrFs K G fs ds → DrFs K G' fs ds
  | _, _, .nil => .nil
  | _, _, .cons h t => .cons (Dr.mono e h) (DrFs.mono e t)
end
theorem DrAll.length : ∀ {vs : List V} {ds : List Dt}, DrAll K G vs ds → vs.length = ds.length
  | _, _, .nil => rfl
  | _, _, .cons _ t => by rw [List.length_cons, List.length_cons, DrAll.length t]
theorem DrAll.get : ∀ {vs : List V} {ds : List Dt} {i : Nat} {v : V}, DrAll K G vs ds → vs[i]? = some v → ∃ d, ds[i]? = some d ∧ Dr K G v d
  | _, _, _, _, .nil, e => by simp at e
  | _, _, 0, _, .cons r _, e => by simp at e; subst e; exact ⟨_, rfl, r⟩
  | _, _, i + 1, v, .cons _ t, e => by
    obtain ⟨u, h1, h2⟩ := DrAll.get (i := i) (v := v) t (by simpa using e)
    exact ⟨u, by simpa using h1, h2⟩
theorem DrAll.getD : ∀ {vs : List V} {ds : List Dt} {i : Nat} {d : Dt}, DrAll K G vs ds → ds[i]? = some d → ∃ v, vs[i]? = some v ∧ Dr K G v d
  | _, _, _, _, .nil, e => by simp at e
  | _, _, 0, _, .cons r _, e => by simp at e; subst e; exact ⟨_, rfl, r⟩
  | _, _, i + 1, v, .cons _ t, e => by
    obtain ⟨u, h1, h2⟩ := DrAll.getD (i := i) (d := v) t (by simpa using e)
    exact ⟨u, by simpa using h1, h2⟩
theorem DrAll.append : ∀ {xs ys : List V} {ds es : List Dt}, DrAll K G xs ds → DrAll K G ys es → DrAll K G (xs ++ ys) (ds ++ es)
  | _, _, _, _, .nil, s => s
  | _, _, _, _, .cons r t, s => .cons r (DrAll.append t s)
theorem DrAll.take : ∀ {xs : List V} {ds : List Dt} (n : Nat), DrAll K G xs ds → DrAll K G (xs.take n) (ds.take n)
  | _, _, 0, _ => .nil
  | _, _, _ + 1, .nil => .nil
  | _, _, n + 1, .cons r t => .cons r (DrAll.take n t)
theorem DrAll.drop : ∀ {xs : List V} {ds : List Dt} (n : Nat), DrAll K G xs ds → DrAll K G (xs.drop n) (ds.drop n)
  | _, _, 0, r => r
  | _, _, _ + 1, .nil => .nil
  | _, _, n + 1, .cons _ t => DrAll.drop n t
theorem DrAll.reverse {xs : List V} {ds : List Dt} (h : DrAll K G xs ds) : DrAll K G xs.reverse ds.reverse := by
  induction xs generalizing ds with
  | nil => cases h; exact .nil
  | cons x xs ih =>
    cases h with
    | cons r t =>
      rw [List.reverse_cons, List.reverse_cons]
      exact (ih t).append (.cons r .nil)
theorem DrAll.set {v : V} {d : Dt} (r : Dr K G v d) : ∀ {xs : List V} {ds : List Dt} (i : Nat), DrAll K G xs ds → DrAll K G (xs.set i v) (ds.set i d)
  | _, _, _, .nil => .nil
  | _, _, 0, .cons _ t => .cons r t
  | _, _, i + 1, .cons q t => .cons q (DrAll.set r i t)
theorem DrAll.replicate {xs : List V} {ds : List Dt} (h : DrAll K G xs ds) : ∀ n : Nat, DrAll K G (List.replicate n xs).flatten (List.replicate n ds).flatten
  | 0 => .nil
  | n + 1 => by
    rw [List.replicate_succ, List.replicate_succ, List.flatten_cons, List.flatten_cons]
    exact h.append (DrAll.replicate h n)
theorem DrFs.look {f : Str} {d : Dt} : ∀ {fs : List (Str × V)} {ds : List (Str × Dt)}, DrFs K G fs ds → ds.lookup f = some d → ∃ v, fs.lookup f = some v ∧ Dr K G v d
  | _, _, .nil, e => by simp at e
  | _, _, .cons (f := g) h t, e => by
    by_cases q : (f == g) = true
    · simp only [List.lookup, q] at e ⊢
      exact ⟨_, rfl, Option.some.inj e ▸ h⟩
    · have q' : (f == g) = false := by simpa using q
      simp only [List.lookup, q'] at e ⊢
      exact DrFs.look t e
theorem DrFs.lookN {f : Str} : ∀ {fs : List (Str × V)} {ds : List (Str × Dt)}, DrFs K G fs ds → ds.lookup f = none → fs.lookup f = none
  | _, _, .nil, e => by simp
  | _, _, .cons (f := g) h t, e => by
    by_cases q : (f == g) = true
    · simp only [List.lookup, q] at e
      cases e
    · have q' : (f == g) = false := by simpa using q
      simp only [List.lookup, q'] at e ⊢
      exact DrFs.lookN t e
end

/-! ### plain data -/
mutual
def toPy : Dt → Option PyData
  | .non => some .none
  | .bl b => some (.bool b)
  | .int i => some (.int i)
  | .str x => some (.str x)
  | .tup ds => (toPys ds).map PyData.tuple
  | .lst ds => (toPys ds).map PyData.list
  | .scr _ => none
  | .dct _ => none
  | .raw _ => none
  | .obj _ _ => none
def toPys : List Dt → Option (List PyData)
  | [] => some []
  | d :: r => match toPy d, toPys r with
    | some x, some xs => some (x :: xs)
    | _, _ => none
end
section
variable {K : PySem.W.Frag} {G : Hp}
mutual
theorem Dr.dp : ∀ {v : V} {d : Dt} {p : PyData}, Dr K G v d → toPy d = some p → Dp K G v p
  | _, _, _, .non, e => by simp only [toPy, Option.some.injEq] at e; subst e; exact .non
  | _, _, _, .bl b, e => by simp only [toPy, Option.some.injEq] at e; subst e; exact .bl b
  | _, _, _, .int i, e => by simp only [toPy, Option.some.injEq] at e; subst e; exact .int i
  | _, _, _, .str x, e => by simp only [toPy, Option.some.injEq] at e; subst e; exact .str x
  | _, _, _, .tup (ds := ds) h t, e => by
    simp only [toPy] at e
    cases q : toPys ds with
    | none => rw [q] at e; cases e
    | some ps =>
      rw [q] at e
      simp only [Option.map_some, Option.some.injEq] at e
      subst e
      exact .tup h (DrAll.dp t q)
  | _, _, _, .lst (ds := ds) h t, e => by
    simp only [toPy] at e
    cases q : toPys ds with
    | none => rw [q] at e; cases e
    | some ps =>
      rw [q] at e
      simp only [Option.map_some, Option.some.injEq] at e
      subst e
      exact .lst (SqL.of h) (DrAll.dp t q)
  | _, _, _, .scr _, e => by simp only [toPy] at e; cases e
  | _, _, _, .dct _, e => by simp only [toPy] at e; cases e
  | _, _, _, .raw v, e => by simp only [toPy] at e; cases e
  | _, _, _, .obj _ _ _, e => by simp only [toPy] at e; cases e
theorem DrAll.dp : ∀ {vs : List V} {ds : List Dt} {ps : List PyData}, DrAll K G vs ds → toPys ds = some ps → DpAll K G vs ps
  | _, _, _, .nil, e => by simp only [toPys, Option.some.injEq] at e; subst e; exact .nil
  | _, _, _, .cons (d := d) (ds := ds) h t, e => by
    simp only [toPys] at e
    cases q : toPy d with
    | none => rw [q] at e; cases e
    | some p =>
      cases q2 : toPys ds with
      | none => rw [q, q2] at e; cases e
      | some ps =>
        rw [q, q2] at e
        simp only [Option.some.injEq] at e
        subst e
        exact .cons (Dr.dp h q) (DrAll.dp t q2)
end
end

/-! ### the world of a def's run: the one object M that may change (its content keeps J); G, the part of the heap that never changes -/
structure Wo where
  K : PySem.W.Frag
  M : Option Addr
  J : HO → Prop
structure Good (W : Wo) (G H : Hp) : Prop where
  sub : Same G H
  st : ∀ a, W.M = some a → G a = none ∧ ∃ o, H a = some o ∧ W.J o
structure Fr (W : Wo) (G H G' H' : Hp) : Prop where
  g : Same G G'
  o : ∀ b u, H b = some u → G b = none → G' b = none ∧ (W.M ≠ some b → H' b = some u)
section
variable {W : Wo} {G H G1 H1 G2 H2 : Hp} {p : Addr} {o : HO}
theorem Fr.refl (W : Wo) (G H : Hp) : Fr W G H G H := ⟨Same.refl G, fun _ _ h g => ⟨g, fun _ => h⟩⟩
theorem Fr.trans (a : Fr W G H G1 H1) (b : Fr W G1 H1 G2 H2) (gd : Good W G2 H2) : Fr W G H G2 H2 :=
  ⟨a.g.trans b.g, fun c u h g => by
    obtain ⟨h1, h2⟩ := a.o c u h g
    by_cases hm : W.M = some c
    · exact ⟨(gd.st c hm).1, fun q => absurd hm q⟩
    · obtain ⟨h3, h4⟩ := b.o c u (h2 hm) h1
      exact ⟨h3, h4⟩⟩
theorem same_new (h : G p = none) : Same G (upd G p o) := fun b u e => by
  rw [upd_ne (ne_of_none e h)]
  exact e
theorem Good.nm (gd : Good W G H) (h : H p = none) : W.M ≠ some p := fun e => by
  obtain ⟨_, u, h1, _⟩ := gd.st p e
  rw [h] at h1
  cases h1
theorem Good.gn (gd : Good W G H) (h : H p = none) : G p = none := gd.sub.free h
theorem same_upd2 (e : Same G H) (h : G p = none) : Same (upd G p o) (upd H p o) := fun b u q => by
  by_cases hb : b = p
  · subst hb
    rw [upd_same] at q ⊢
    exact q
  · rw [upd_ne hb] at q ⊢
    exact e b u q
/-- a new object that never changes -/
theorem Fr.new (gd : Good W G H) (h : H p = none) : Fr W G H (upd G p o) (upd H p o) :=
  ⟨same_new (gd.gn h), fun b u e g => by
    have hb : b ≠ p := ne_of_none e h
    rw [upd_ne hb, upd_ne hb]
    exact ⟨g, fun _ => e⟩⟩
theorem Good.new (gd : Good W G H) (h : H p = none) : Good W (upd G p o) (upd H p o) :=
  ⟨same_upd2 gd.sub (gd.gn h), fun a e => by
    obtain ⟨h1, u, h2, h3⟩ := gd.st a e
    have hb : a ≠ p := ne_of_none h2 h
    rw [upd_ne hb, upd_ne hb]
    exact ⟨h1, u, h2, h3⟩⟩
/-- a new object that may change -/
theorem Fr.newM (gd : Good W G H) (h : H p = none) : Fr W G H G (upd H p o) :=
  ⟨Same.refl G, fun b u e g => by
    rw [upd_ne (ne_of_none e h)]
    exact ⟨g, fun _ => e⟩⟩
theorem Good.setM (gd : Good W G H) (h : G p = none) (hm : W.M ≠ some p) : Good W G (upd H p o) :=
  ⟨fun b u e => by
    rw [upd_ne (ne_of_none e h)]
    exact gd.sub b u e, fun a e => by
    obtain ⟨h1, u, h2, h3⟩ := gd.st a e
    have hb : a ≠ p := fun q => hm (q ▸ e)
    rw [upd_ne hb]
    exact ⟨h1, u, h2, h3⟩⟩
end

/-! ### what the names hold -/
inductive Sl where
  | un
  | dat (d : Dt)
  | mu (ds : List Dt)
  | slf (C : Addr) (fs : List (Str × Dt))
def Sl.own : Sl → Bool
  | .mu _ => true
  | .slf _ _ => true
  | _ => false
structure EnvOk (W : Wo) (H0 G H : Hp) (σ : L2.St) (δ : List Sl) : Prop where
  len : σ.length = δ.length
  dat : ∀ (i : Nat) (d : Dt), δ[i]? = some (.dat d) → ∃ v, σ[i]? = some (some v) ∧ Dr W.K G v d
  mu : ∀ (i : Nat) (ds : List Dt), δ[i]? = some (.mu ds) → ∃ (a : Addr) (xs : List V), σ[i]? = some (some (.ref a)) ∧ H a = some (.lst xs) ∧ G a = none ∧ H0 a = none ∧ W.M ≠ some a ∧ DrAll W.K G xs ds
  slf : ∀ (i : Nat) (C : Addr) (fds : List (Str × Dt)), δ[i]? = some (.slf C fds) → ∃ (a dx : Addr) (fs : List (Str × V)), σ[i]? = some (some (.ref a)) ∧ H a = some (.ins C dx fs) ∧ H dx = some (.own a) ∧ G a = none ∧ G dx = none ∧ H0 a = none ∧ H0 dx = none ∧ W.M ≠ some a ∧ W.M ≠ some dx ∧ DrFs W.K G fs fds
  sep : ∀ (i j : Nat) (a : Addr) (s t : Sl), i ≠ j → δ[i]? = some s → δ[j]? = some t → s.own = true → t.own = true → σ[i]? = some (some (.ref a)) → σ[j]? ≠ some (some (.ref a))
structure Cn where
  W : Wo
  G0 : Hp
  H0 : Hp
  E : XK
  X : Addr → Option (List (Str × Dt)) → Prop
  hE : ∀ (C : Addr) (d : Option Addr) (fds : Option (List (Str × Dt))) (G H : Hp), Fr W G0 H0 G H → Good W G H →
    (match d, fds with | none, none => True | some a, some l => G a = none ∧ H0 a = none ∧ ∃ fs, H a = some (.xd fs) ∧ DrFs W.K G fs l | _, _ => False) → X C fds → E (.ref C) d H
structure At (Γ : Cn) (δ : List Sl) (G H : Hp) (σ : L2.St) : Prop where
  fr : Fr Γ.W Γ.G0 Γ.H0 G H
  gd : Good Γ.W G H
  env : EnvOk Γ.W Γ.H0 G H σ δ
section
variable {W : Wo} {H0 G H G' H' : Hp} {σ : L2.St} {δ : List Sl} {Γ : Cn}
theorem EnvOk.step (e : EnvOk W H0 G H σ δ) (f : Fr W G H G' H') : EnvOk W H0 G' H' σ δ where
  len := e.len
  dat := fun i d h => by
    obtain ⟨v, h1, h2⟩ := e.dat i d h
    exact ⟨v, h1, h2.mono f.g⟩
  mu := fun i ds h => by
    obtain ⟨a, xs, h1, h2, h3, h4, h5, h6⟩ := e.mu i ds h
    obtain ⟨k1, k2⟩ := f.o a _ h2 h3
    exact ⟨a, xs, h1, k2 h5, k1, h4, h5, h6.mono f.g⟩
  slf := fun i C fds h => by
    obtain ⟨a, dx, fs, h1, h2, h3, h4, h5, h6, h7, h8, h9, h10⟩ := e.slf i C fds h
    obtain ⟨k1, k2⟩ := f.o a _ h2 h4
    obtain ⟨k3, k4⟩ := f.o dx _ h3 h5
    exact ⟨a, dx, fs, h1, k2 h8, k4 h9, k1, k3, h6, h7, h8, h9, h10.mono f.g⟩
  sep := e.sep
theorem At.step (a : At Γ δ G H σ) (f : Fr Γ.W G H G' H') (g : Good Γ.W G' H') : At Γ δ G' H' σ :=
  ⟨a.fr.trans f g, g, a.env.step f⟩
theorem At.h0 (a : At Γ δ G H σ) {p : Addr} (h : H p = none) : Γ.H0 p = none := by
  cases q : Γ.H0 p with
  | none => rfl
  | some u =>
    exfalso
    cases q2 : Γ.G0 p with
    | none =>
      have := (a.fr.o p u q q2).2 (a.gd.nm h)
      rw [h] at this
      cases this
    | some u2 =>
      have := a.gd.sub p u2 (a.fr.g p u2 q2)
      rw [h] at this
      cases this
theorem set_get {α : Type} {l : List α} {i j : Nat} {x : α} : (l.set i x)[j]? = if i = j then (if i < l.length then some x else none) else l[j]? := by
  rw [List.getElem?_set]
theorem EnvOk.set (e : EnvOk W H0 G H σ δ) {i : Nat} {v : V} {d : Dt} (h : Dr W.K G v d) : EnvOk W H0 G H (σ.set i (some v)) (δ.set i (.dat d)) where
  len := by rw [List.length_set, List.length_set]; exact e.len
  dat := fun j d' hj => by
    rw [set_get] at hj ⊢
    by_cases q : i = j
    · rw [if_pos q] at hj ⊢
      by_cases q2 : i < δ.length
      · rw [if_pos q2] at hj
        rw [if_pos (by rw [e.len]; exact q2)]
        cases hj
        exact ⟨v, rfl, h⟩
      · rw [if_neg q2] at hj
        cases hj
    · rw [if_neg q] at hj ⊢
      exact e.dat j d' hj
  mu := fun j ds hj => by
    rw [set_get] at hj ⊢
    by_cases q : i = j
    · rw [if_pos q] at hj
      split at hj <;> cases hj
    · rw [if_neg q] at hj ⊢
      exact e.mu j ds hj
  slf := fun j C fds hj => by
    rw [set_get] at hj ⊢
    by_cases q : i = j
    · rw [if_pos q] at hj
      split at hj <;> cases hj
    · rw [if_neg q] at hj ⊢
      exact e.slf j C fds hj
  sep := fun j k a s t hjk hj hk so to h1 => by
    rw [set_get] at hj hk h1 ⊢
    by_cases q : i = j
    · rw [if_pos q] at hj
      split at hj
      · cases hj; cases so
      · cases hj
    · by_cases q2 : i = k
      · rw [if_pos q2] at hk
        split at hk
        · cases hk; cases to
        · cases hk
      · rw [if_neg q] at hj h1
        rw [if_neg q2] at hk ⊢
        exact e.sep j k a s t hjk hj hk so to h1
end

/-! ### the judgements over data -/
/-- what may be read: a datum that never changes, or an own list as it stands -/
def Dv (W : Wo) (G H : Hp) (v : V) (d : Dt) : Prop := Dr W.K G v d ∨ ∃ a xs ds, v = .ref a ∧ d = .lst ds ∧ H a = some (.lst xs) ∧ G a = none ∧ W.M ≠ some a ∧ DrAll W.K G xs ds
inductive DvAll (W : Wo) (G H : Hp) : List V → List Dt → Prop
  | nil : DvAll W G H [] []
  | cons {v : V} {vs : List V} {d : Dt} {ds : List Dt} : Dv W G H v d → DvAll W G H vs ds → DvAll W G H (v :: vs) (d :: ds)
section
variable {W : Wo} {G H G' H' : Hp} {v : V} {d : Dt}
theorem Dv.step (h : Dv W G H v d) (f : Fr W G H G' H') : Dv W G' H' v d := by
  rcases h with h | ⟨a, xs, ds, h1, h2, h3, h4, h5, h6⟩
  · exact .inl (h.mono f.g)
  · obtain ⟨k1, k2⟩ := f.o a _ h3 h4
    exact .inr ⟨a, xs, ds, h1, h2, k2 h5, k1, h5, h6.mono f.g⟩
theorem Dv.dr (h : Dv W G H v d) (g : Good W G H) : Dr W.K H v d := by
  rcases h with h | ⟨a, xs, ds, h1, h2, h3, h4, h5, h6⟩
  · exact h.mono g.sub
  · subst h1 h2
    exact .lst h3 (h6.mono g.sub)
theorem DvAll.step : ∀ {vs : List V} {ds : List Dt}, DvAll W G H vs ds → Fr W G H G' H' → DvAll W G' H' vs ds
  | _, _, .nil, _ => .nil
  | _, _, .cons h t, f => .cons (h.step f) (DvAll.step t f)
theorem DvAll.of : ∀ {vs : List V} {ds : List Dt}, DrAll W.K G vs ds → DvAll W G H vs ds
  | _, _, .nil => .nil
  | _, _, .cons h t => .cons (.inl h) (DvAll.of t)
theorem Dv.int {i : Int} (h : Dv W G H v (.int i)) : v = .int i := by
  rcases h with h | ⟨a, xs, ds, h1, h2, _⟩
  · cases h; rfl
  · cases h2
theorem Dv.str {x : Str} (h : Dv W G H v (.str x)) : v = .str x := by
  rcases h with h | ⟨a, xs, ds, h1, h2, _⟩
  · cases h; rfl
  · cases h2
theorem Dv.bl {b : Bool} (h : Dv W G H v (.bl b)) : v = .bl b := by
  rcases h with h | ⟨a, xs, ds, h1, h2, _⟩
  · cases h; rfl
  · cases h2
theorem Dv.non (h : Dv W G H v .non) : v = .non := by
  rcases h with h | ⟨a, xs, ds, h1, h2, _⟩
  · cases h; rfl
  · cases h2
theorem Dv.raw {u : V} (h : Dv W G H v (.raw u)) : v = u := by
  rcases h with h | ⟨a, xs, ds, h1, h2, _⟩
  · cases h; rfl
  · cases h2
theorem Dv.tup {ds : List Dt} (h : Dv W G H v (.tup ds)) : ∃ a xs, v = .ref a ∧ SqT W.K G a xs ∧ DrAll W.K G xs ds := by
  rcases h with h | ⟨a, xs, ds, h1, h2, _⟩
  · cases h with | tup h1 h2 => exact ⟨_, _, rfl, h1, h2⟩
  · cases h2
theorem Dv.lst {ds : List Dt} (h : Dv W G H v (.lst ds)) (g : Good W G H) : ∃ a xs, v = .ref a ∧ H a = some (.lst xs) ∧ DrAll W.K G xs ds := by
  rcases h with h | ⟨a, xs, ds, h1, h2, h3, h4, h5, h6⟩
  · cases h with | lst h1 h2 => exact ⟨_, _, rfl, g.sub _ _ h1, h2⟩
  · cases h2
    exact ⟨a, xs, h1, h3, h6⟩
end

structure De where
  nx : List Sl → Prop
  rt : Dt → Prop
  bk : List Sl → Prop := fun _ => False
  ct : List Sl → Prop := fun _ => False
def ED (Γ : Cn) (te : TE) (δ : List Sl) (P : Dt → Prop) : Prop :=
  ∀ G H σ (Q : VK), At Γ δ G H σ → (∀ v d G' H', Fr Γ.W G H G' H' → Good Γ.W G' H' → Dr Γ.W.K G' v d → P d → Q v H') → te σ H Q
def RD (Γ : Cn) (te : TE) (δ : List Sl) (P : Dt → Prop) : Prop :=
  ∀ G H σ (Q : VK), At Γ δ G H σ → (∀ v d G' H', Fr Γ.W G H G' H' → Good Γ.W G' H' → Dv Γ.W G' H' v d → P d → Q v H') → te σ H Q
def NL (Γ : Cn) (te : TE) (δ : List Sl) (P : List Dt → Prop) : Prop :=
  ∀ G H σ (Q : VK), At Γ δ G H σ → (∀ a xs ds G' H', Fr Γ.W G H G' H' → Good Γ.W G' H' → H a = none → H' a = some (.lst xs) → G' a = none → DrAll Γ.W.K G' xs ds → P ds → Q (.ref a) H') → te σ H Q
def TD (Γ : Cn) (tt : TT) (δ : List Sl) (P : Bool → Prop) : Prop :=
  ∀ G H σ (Q : Bool → Hp → Prop), At Γ δ G H σ → (∀ b G' H', Fr Γ.W G H G' H' → Good Γ.W G' H' → P b → Q b H') → tt σ H Q
def AD (Γ : Cn) (ta : TA) (δ : List Sl) (P : List Dt → Prop) : Prop :=
  ∀ G H σ (Q : List V → Hp → Prop), At Γ δ G H σ → (∀ vs ds G' H', Fr Γ.W G H G' H' → Good Γ.W G' H' → DrAll Γ.W.K G' vs ds → P ds → Q vs H') → ta σ H Q
def RA (Γ : Cn) (ta : TA) (δ : List Sl) (P : List Dt → Prop) : Prop :=
  ∀ G H σ (Q : List V → Hp → Prop), At Γ δ G H σ → (∀ vs ds G' H', Fr Γ.W G H G' H' → Good Γ.W G' H' → DvAll Γ.W G' H' vs ds → P ds → Q vs H') → ta σ H Q
def SD (Γ : Cn) (ts : TS) (δ : List Sl) (D : De) : Prop :=
  ∀ G H σ (E : Ends), At Γ δ G H σ → (∀ δ' G' H' σ', Same G G' → At Γ δ' G' H' σ' → D.nx δ' → E.nx σ' H') →
    (∀ v d G' H', Fr Γ.W Γ.G0 Γ.H0 G' H' → Good Γ.W G' H' → Dr Γ.W.K G' v d → D.rt d → E.rt v H') →
    (∀ δ' G' H' σ', Same G G' → At Γ δ' G' H' σ' → D.bk δ' → E.bk σ' H') → (∀ δ' G' H' σ', Same G G' → At Γ δ' G' H' σ' → D.ct δ' → E.ct σ' H') → ts E σ H
/-- an operation on data -/
def OD (W : Wo) (r : R2) (x y : Dt) (P : Dt → Prop) : Prop :=
  ∀ G H v w (Q : VK), Good W G H → Dv W G H v x → Dv W G H w y → (∀ u d G' H', Fr W G H G' H' → Good W G' H' → Dr W.K G' u d → P d → Q u H') → r v w H Q
/-- a call on data -/
def CD (W : Wo) (r : List V → Hp → VK → Prop) (ds : List Dt) (P : Dt → Prop) : Prop :=
  ∀ G H vs (Q : VK), Good W G H → DvAll W G H vs ds → (∀ u d G' H', Fr W G H G' H' → Good W G' H' → Dr W.K G' u d → P d → Q u H') → r vs H Q

section
variable {Γ : Cn} {δ : List Sl} {te ta tb tc : TE} {P : Dt → Prop} {r r' : R2}
theorem ED.rd (h : ED Γ te δ P) : RD Γ te δ P := fun G H σ Q at_ k => h G H σ Q at_ fun v d G' H' f g r p => k v d G' H' f g (.inl r) p
theorem NL.ed (h : NL Γ te δ fun ds => P (.lst ds)) : ED Γ te δ P := fun G H σ Q at_ k => h G H σ Q at_ fun a xs ds G' H' f g ha h1 h2 r p => by
  have gd2 : Good Γ.W (upd G' a (.lst xs)) H' := ⟨fun b u e => by
    by_cases hb : b = a
    · subst hb
      rw [upd_same] at e
      rw [← e]
      exact h1
    · rw [upd_ne hb] at e
      exact g.sub b u e, fun b e => by
    obtain ⟨k1, u, k2, k3⟩ := g.st b e
    have hb : b ≠ a := fun q => at_.gd.nm ha (q ▸ e)
    rw [upd_ne hb]
    exact ⟨k1, u, k2, k3⟩⟩
  refine k (.ref a) (.lst ds) (upd G' a (.lst xs)) H' ⟨f.g.trans (same_new h2), fun b u e gb => ?_⟩ gd2 (.lst upd_same (r.mono (same_new h2))) p
  have hb : b ≠ a := ne_of_none e ha
  rw [upd_ne hb]
  exact f.o b u e gb
theorem ed_var {i : Nat} {d : Dt} (h : δ[i]? = some (.dat d)) (p : P d) : ED Γ (tVar i) δ P := fun G H σ Q at_ k => by
  obtain ⟨v, h1, h2⟩ := at_.env.dat i d h
  exact ⟨v, h1, k v d G H (Fr.refl _ _ _) at_.gd h2 p⟩
theorem rd_mut {i : Nat} {ds : List Dt} (h : δ[i]? = some (.mu ds)) (p : P (.lst ds)) : RD Γ (tVar i) δ P := fun G H σ Q at_ k => by
  obtain ⟨a, xs, h1, h2, h3, h4, h5, h6⟩ := at_.env.mu i ds h
  exact ⟨.ref a, h1, k _ _ G H (Fr.refl _ _ _) at_.gd (.inr ⟨a, xs, ds, rfl, rfl, h2, h3, h5, h6⟩) p⟩
theorem ed_c {v : V} {d : Dt} (h : ∀ G, Dr Γ.W.K G v d) (p : P d) : ED Γ (tC v) δ P := fun G H σ Q at_ k => k v d G H (Fr.refl _ _ _) at_.gd (h G) p
theorem ed_int {i : Int} (p : P (.int i)) : ED Γ (tC (.int i)) δ P := ed_c (fun _ => .int i) p
theorem ed_str {x : Str} (p : P (.str x)) : ED Γ (tC (.str x)) δ P := ed_c (fun _ => .str x) p
theorem ed_bl {b : Bool} (p : P (.bl b)) : ED Γ (tC (.bl b)) δ P := ed_c (fun _ => .bl b) p
theorem ed_non (p : P .non) : ED Γ (tC .non) δ P := ed_c (fun _ => .non) p
theorem ed_raw {v : V} (p : P (.raw v)) : ED Γ (tC v) δ P := ed_c (fun _ => .raw v) p
theorem ed_op (h : RD Γ ta δ fun x => RD Γ tb δ fun y => OD Γ.W r x y P) : ED Γ (tOp r ta tb) δ P := fun G H σ Q at_ k =>
  h G H σ _ at_ fun v x G1 H1 f1 g1 d1 p1 => p1 G1 H1 σ _ (at_.step f1 g1) fun w y G2 H2 f2 g2 d2 p2 =>
    p2 G2 H2 v w Q g2 (d1.step f2) d2 fun u d G3 H3 f3 g3 d3 p3 => k u d G3 H3 ((f1.trans f2 g2).trans f3 g3) g3 d3 p3
theorem ed_un {r : V → Hp → VK → Prop} (h : RD Γ ta δ fun x => CD Γ.W (fun vs H Q => ∃ v, vs = [v] ∧ r v H Q) [x] P) : ED Γ (tUn r ta) δ P := fun G H σ Q at_ k =>
  h G H σ _ at_ fun v x G1 H1 f1 g1 d1 p1 => by
    obtain ⟨v', e, q⟩ := p1 G1 H1 [v] Q g1 (.cons d1 .nil) fun u d G3 H3 f3 g3 d3 p3 => k u d G3 H3 (f1.trans f3 g3) g3 d3 p3
    cases e
    exact q
theorem ra_nil {P : List Dt → Prop} (p : P []) : RA Γ tNil δ P := fun G H σ Q at_ k => k [] [] G H (Fr.refl _ _ _) at_.gd .nil p
theorem ra_cons {tr : TA} {P : List Dt → Prop} (h : RD Γ ta δ fun x => RA Γ tr δ fun xs => P (x :: xs)) : RA Γ (tCons ta tr) δ P := fun G H σ Q at_ k =>
  h G H σ _ at_ fun v x G1 H1 f1 g1 d1 p1 => p1 G1 H1 σ _ (at_.step f1 g1) fun vs xs G2 H2 f2 g2 d2 p2 => k (v :: vs) (x :: xs) G2 H2 (f1.trans f2 g2) g2 (.cons (d1.step f2) d2) p2
theorem ad_nil {P : List Dt → Prop} (p : P []) : AD Γ tNil δ P := fun G H σ Q at_ k => k [] [] G H (Fr.refl _ _ _) at_.gd .nil p
theorem ad_cons {tr : TA} {P : List Dt → Prop} (h : ED Γ ta δ fun x => AD Γ tr δ fun xs => P (x :: xs)) : AD Γ (tCons ta tr) δ P := fun G H σ Q at_ k =>
  h G H σ _ at_ fun v x G1 H1 f1 g1 d1 p1 => p1 G1 H1 σ _ (at_.step f1 g1) fun vs xs G2 H2 f2 g2 d2 p2 => k (v :: vs) (x :: xs) G2 H2 (f1.trans f2 g2) g2 (.cons (d1.mono f2.g) d2) p2
theorem ed_cb {rc : List V → Hp → VK → Prop} {t : TA} (h : RA Γ t δ fun ds => CD Γ.W rc ds P) : ED Γ (tCB rc t) δ P := fun G H σ Q at_ k =>
  h G H σ _ at_ fun vs ds G1 H1 f1 g1 d1 p1 => p1 G1 H1 vs Q g1 d1 fun u d G3 H3 f3 g3 d3 p3 => k u d G3 H3 (f1.trans f3 g3) g3 d3 p3
theorem ed_tup {t : TA} (h : AD Γ t δ fun ds => ds.length ≤ 100000 ∧ P (.tup ds)) : ED Γ (tTup t) δ P := fun G H σ Q at_ k =>
  h G H σ _ at_ fun vs ds G1 H1 f1 g1 d1 ⟨hl, p1⟩ => ⟨by rw [d1.length]; exact Nat.le_trans hl (by decide), fun p hp =>
    k (.ref p) (.tup ds) (upd G1 p (.tup vs)) _ (f1.trans (Fr.new g1 hp) (g1.new hp)) (g1.new hp) (.tup (.inl (.inl upd_same)) (d1.mono (same_new (g1.gn hp)))) p1⟩
theorem nl_lst {t : TA} {P : List Dt → Prop} (h : AD Γ t δ fun ds => ds.length ≤ 100000 ∧ P ds) : NL Γ (tLst t) δ P := fun G H σ Q at_ k =>
  h G H σ _ at_ fun vs ds G1 H1 f1 g1 d1 ⟨hl, p1⟩ => ⟨by rw [d1.length]; exact Nat.le_trans hl (by decide), fun p hp => by
    have hH : H p = none := by
      cases q : H p with
      | none => rfl
      | some u =>
        exfalso
        cases q2 : G p with
        | none =>
          by_cases hm : Γ.W.M = some p
          · exact g1.nm hp hm
          · have := (f1.o p u q q2).2 hm
            rw [hp] at this
            cases this
        | some u2 =>
          have := g1.sub p u2 (f1.g p u2 q2)
          rw [hp] at this
          cases this
    exact k p vs ds G1 _ (f1.trans (Fr.newM g1 hp) (g1.setM (g1.gn hp) (g1.nm hp))) (g1.setM (g1.gn hp) (g1.nm hp)) hH upd_same (g1.gn hp) d1 p1⟩
theorem fr_back {W : Wo} {G H G1 H1 : Hp} (f : Fr W G H G1 H1) (g : Good W G1 H1) {p : Addr} (hp : H1 p = none) : H p = none := by
  cases q : H p with
  | none => rfl
  | some u =>
    exfalso
    cases q2 : G p with
    | none =>
      by_cases hm : W.M = some p
      · exact g.nm hp hm
      · have := (f.o p u q q2).2 hm
        rw [hp] at this
        cases this
    | some u2 =>
      have := g.sub p u2 (f.g p u2 q2)
      rw [hp] at this
      cases this
/-! tests -/
theorem td_B {P : Bool → Prop} (h : ED Γ te δ fun d => ∃ b, d = .bl b ∧ P b) : TD Γ (tB te) δ P := fun G H σ Q at_ k =>
  h G H σ _ at_ fun v d G1 H1 f1 g1 d1 ⟨b, e, p⟩ => by subst e; cases d1; exact ⟨b, rfl, k b G1 H1 f1 g1 p⟩
theorem td_test {P : Bool → Prop} (h : ED Γ te δ fun d => ∃ b, d = .bl b ∧ P b) : TD Γ (tTest te) δ P := fun G H σ Q at_ k =>
  h G H σ _ at_ fun v d G1 H1 f1 g1 d1 ⟨b, e, p⟩ => by subst e; cases d1; exact ⟨b, rfl, k b G1 H1 f1 g1 p⟩
theorem td_and {t u : TT} {P : Bool → Prop} (h : TD Γ t δ fun b => (b = true → TD Γ u δ P) ∧ (b = false → P false)) : TD Γ (tAnd t u) δ P := fun G H σ Q at_ k =>
  h G H σ _ at_ fun b G1 H1 f1 g1 ⟨p1, p2⟩ => by
    cases b with
    | true => exact p1 rfl G1 H1 σ Q (at_.step f1 g1) fun b G2 H2 f2 g2 p => k b G2 H2 (f1.trans f2 g2) g2 p
    | false => exact k false G1 H1 f1 g1 (p2 rfl)
theorem td_or {t u : TT} {P : Bool → Prop} (h : TD Γ t δ fun b => (b = true → P true) ∧ (b = false → TD Γ u δ P)) : TD Γ (tOr t u) δ P := fun G H σ Q at_ k =>
  h G H σ _ at_ fun b G1 H1 f1 g1 ⟨p1, p2⟩ => by
    cases b with
    | true => exact k true G1 H1 f1 g1 (p1 rfl)
    | false => exact p2 rfl G1 H1 σ Q (at_.step f1 g1) fun b G2 H2 f2 g2 p => k b G2 H2 (f1.trans f2 g2) g2 p
theorem td_not {t : TT} {P : Bool → Prop} (h : TD Γ t δ fun b => P (!b)) : TD Γ (tNot t) δ P := fun G H σ Q at_ k =>
  h G H σ _ at_ fun b G1 H1 f1 g1 p => k (!b) G1 H1 f1 g1 p
theorem ed_andV (h : ED Γ ta δ fun d => ∃ b, d = .bl b ∧ (b = true → ED Γ tb δ P) ∧ (b = false → P (.bl false))) : ED Γ (tAndV ta tb) δ P := fun G H σ Q at_ k =>
  h G H σ _ at_ fun v d G1 H1 f1 g1 d1 ⟨b, e, p1, p2⟩ => by
    subst e
    cases d1
    refine ⟨b, rfl, ?_⟩
    cases b with
    | true => exact p1 rfl G1 H1 σ Q (at_.step f1 g1) fun v d G2 H2 f2 g2 d2 p => k v d G2 H2 (f1.trans f2 g2) g2 d2 p
    | false => exact k _ _ G1 H1 f1 g1 (.bl false) (p2 rfl)
theorem ed_orV (h : ED Γ ta δ fun d => ∃ b, d = .bl b ∧ (b = true → P (.bl true)) ∧ (b = false → ED Γ tb δ P)) : ED Γ (tOrV ta tb) δ P := fun G H σ Q at_ k =>
  h G H σ _ at_ fun v d G1 H1 f1 g1 d1 ⟨b, e, p1, p2⟩ => by
    subst e
    cases d1
    refine ⟨b, rfl, ?_⟩
    cases b with
    | true => exact k _ _ G1 H1 f1 g1 (.bl true) (p1 rfl)
    | false => exact p2 rfl G1 H1 σ Q (at_.step f1 g1) fun v d G2 H2 f2 g2 d2 p => k v d G2 H2 (f1.trans f2 g2) g2 d2 p
theorem ed_notV (h : ED Γ ta δ fun d => ∃ b, d = .bl b ∧ P (.bl (!b))) : ED Γ (tNotV ta) δ P := fun G H σ Q at_ k =>
  h G H σ _ at_ fun v d G1 H1 f1 g1 d1 ⟨b, e, p1⟩ => by
    subst e
    cases d1
    exact ⟨b, rfl, k _ _ G1 H1 f1 g1 (.bl _) p1⟩
theorem ed_if {t : TT} (h : TD Γ t δ fun b => (b = true → ED Γ ta δ P) ∧ (b = false → ED Γ tb δ P)) : ED Γ (tIf t ta tb) δ P := fun G H σ Q at_ k =>
  h G H σ _ at_ fun b G1 H1 f1 g1 ⟨p1, p2⟩ => by
    cases b with
    | true => exact p1 rfl G1 H1 σ Q (at_.step f1 g1) fun v d G2 H2 f2 g2 d2 p => k v d G2 H2 (f1.trans f2 g2) g2 d2 p
    | false => exact p2 rfl G1 H1 σ Q (at_.step f1 g1) fun v d G2 H2 f2 g2 d2 p => k v d G2 H2 (f1.trans f2 g2) g2 d2 p
theorem ed_chain (h : RD Γ ta δ fun x => RD Γ tb δ fun y => OD Γ.W r x y fun z => ∃ b, z = .bl b ∧ (b = true → RD Γ tc δ fun w => OD Γ.W r' y w P) ∧ (b = false → P (.bl false))) : ED Γ (tChain r r' ta tb tc) δ P := fun G H σ Q at_ k =>
  h G H σ _ at_ fun v x G1 H1 f1 g1 d1 p1 => p1 G1 H1 σ _ (at_.step f1 g1) fun w y G2 H2 f2 g2 d2 p2 =>
    p2 G2 H2 v w _ g2 (d1.step f2) d2 fun u d G3 H3 f3 g3 d3 ⟨b, e, q1, q2⟩ => by
      subst e
      cases d3
      refine ⟨b, rfl, ?_⟩
      have f13 := (f1.trans f2 g2).trans f3 g3
      cases b with
      | true =>
        refine q1 rfl G3 H3 σ _ (at_.step f13 g3) fun w' z G4 H4 f4 g4 d4 p4 => ?_
        exact p4 G4 H4 w w' Q g4 ((d2.step f3).step f4) d4 fun u d G5 H5 f5 g5 d5 p5 => k u d G5 H5 ((f13.trans f4 g4).trans f5 g5) g5 d5 p5
      | false => exact k _ _ G3 H3 f13 g3 (.bl false) (q2 rfl)
/-! statements -/
variable {D : De} {ts tu : TS}
theorem sd_seq (h : SD Γ ts δ { D with nx := fun δ' => SD Γ tu δ' D }) : SD Γ (tSeq ts tu) δ D := fun G H σ E at_ hn hr hb hc =>
  h G H σ { E with nx := tu E } at_ (fun δ' G' H' σ' e a q => q G' H' σ' E a (fun δ2 G2 H2 σ2 e2 a2 q2 => hn δ2 G2 H2 σ2 (e.trans e2) a2 q2) hr
    (fun δ2 G2 H2 σ2 e2 a2 q2 => hb δ2 G2 H2 σ2 (e.trans e2) a2 q2) (fun δ2 G2 H2 σ2 e2 a2 q2 => hc δ2 G2 H2 σ2 (e.trans e2) a2 q2)) hr hb hc
theorem sd_next (h : D.nx δ) : SD Γ tNext δ D := fun G H σ E at_ hn hr hb hc => hn δ G H σ (Same.refl G) at_ h
theorem sd_break (h : D.bk δ) : SD Γ tBreak δ D := fun G H σ E at_ hn hr hb hc => hb δ G H σ (Same.refl G) at_ h
theorem sd_cont (h : D.ct δ) : SD Γ tCont δ D := fun G H σ E at_ hn hr hb hc => hc δ G H σ (Same.refl G) at_ h
theorem sd_never {δ : List Sl} (h : False) : SD Γ tNever δ D := h.elim
theorem sd_asg {i : Nat} (h : ED Γ te δ fun d => D.nx (δ.set i (.dat d))) : SD Γ (tAsg te (gName i)) δ D := fun G H σ E at_ hn hr hb hc =>
  h G H σ _ at_ fun v d G1 H1 f1 g1 d1 p1 => hn _ G1 H1 _ f1.g ⟨at_.fr.trans f1 g1, g1, (at_.env.step f1).set d1⟩ p1
theorem sd_drop (h : RD Γ te δ fun _ => D.nx δ) : SD Γ (tDrop te) δ D := fun G H σ E at_ hn hr hb hc =>
  h G H σ _ at_ fun v d G1 H1 f1 g1 d1 p1 => hn _ G1 H1 _ f1.g (at_.step f1 g1) p1
theorem sd_ret (h : ED Γ te δ D.rt) : SD Γ (tRet te) δ D := fun G H σ E at_ hn hr hb hc =>
  h G H σ _ at_ fun v d G1 H1 f1 g1 d1 p1 => hr v d G1 H1 (at_.fr.trans f1 g1) g1 d1 p1
theorem sd_retN (h : D.rt .non) : SD Γ tRetN δ D := fun G H σ E at_ hn hr hb hc => hr .non .non G H at_.fr at_.gd .non h
theorem sd_if {t : TT} (h : TD Γ t δ fun b => (b = true → SD Γ ts δ D) ∧ (b = false → SD Γ tu δ D)) : SD Γ (tIfS t ts tu) δ D := fun G H σ E at_ hn hr hb hc =>
  h G H σ _ at_ fun b G1 H1 f1 g1 ⟨p1, p2⟩ => by
    have a1 := at_.step f1 g1
    cases b with
    | true => exact p1 rfl G1 H1 σ E a1 (fun δ2 G2 H2 σ2 e2 a2 q2 => hn δ2 G2 H2 σ2 (f1.g.trans e2) a2 q2) hr (fun δ2 G2 H2 σ2 e2 a2 q2 => hb δ2 G2 H2 σ2 (f1.g.trans e2) a2 q2) (fun δ2 G2 H2 σ2 e2 a2 q2 => hc δ2 G2 H2 σ2 (f1.g.trans e2) a2 q2)
    | false => exact p2 rfl G1 H1 σ E a1 (fun δ2 G2 H2 σ2 e2 a2 q2 => hn δ2 G2 H2 σ2 (f1.g.trans e2) a2 q2) hr (fun δ2 G2 H2 σ2 e2 a2 q2 => hb δ2 G2 H2 σ2 (f1.g.trans e2) a2 q2) (fun δ2 G2 H2 σ2 e2 a2 q2 => hc δ2 G2 H2 σ2 (f1.g.trans e2) a2 q2)
end
end Pd

set_option Elab.async false
set_option linter.all false
set_option maxRecDepth 100000
set_option maxHeartbeats 2000000
namespace Pd
open PySem PySem.Spec PyProof.Rows L2

/-! ### wiped slots -/
theorem wipe_get (σ : L2.St) : ∀ (vs : List Nat) (i : Nat), (wipe σ vs)[i]? = if i ∈ vs then (σ[i]?).map (fun _ => none) else σ[i]?
  | [], i => by simp [wipe]
  | v :: vs, i => by
    unfold wipe
    rw [set_get, wipe_length, wipe_get σ vs i]
    by_cases h : v = i
    · subst h
      rw [if_pos rfl, if_pos List.mem_cons_self]
      by_cases h2 : v < σ.length
      · rw [if_pos h2, List.getElem?_eq_getElem h2]
        rfl
      · rw [if_neg h2, List.getElem?_eq_none (by omega)]
        rfl
    · rw [if_neg h]
      have : (i ∈ v :: vs) ↔ i ∈ vs := by
        rw [List.mem_cons]
        exact ⟨fun q => q.resolve_left (fun z => h z.symm), .inr⟩
      by_cases h3 : i ∈ vs
      · rw [if_pos h3, if_pos (this.mpr h3)]
      · rw [if_neg h3, if_neg (fun z => h3 (this.mp z))]
theorem wipe_wipe (σ : L2.St) (vs : List Nat) : wipe (wipe σ vs) vs = wipe σ vs := by
  apply List.ext_getElem?
  intro i
  rw [wipe_get, wipe_get]
  by_cases h : i ∈ vs
  · rw [if_pos h, if_pos h]
    cases σ[i]? <;> rfl
  · rw [if_neg h, if_neg h]
theorem wipe_set (σ : L2.St) {vs : List Nat} {j : Nat} (x : Option V) (hj : j ∈ vs) : wipe (σ.set j x) vs = wipe σ vs := by
  apply List.ext_getElem?
  intro i
  rw [wipe_get, wipe_get, set_get]
  by_cases h : i ∈ vs
  · rw [if_pos h, if_pos h]
    by_cases h2 : j = i
    · subst h2
      rw [if_pos rfl]
      by_cases h3 : j < σ.length
      · rw [if_pos h3, List.getElem?_eq_getElem h3]
        rfl
      · rw [if_neg h3, List.getElem?_eq_none (by omega)]
    · rw [if_neg h2]
  · rw [if_neg h, if_neg h]
    by_cases h2 : j = i
    · subst h2
      exact absurd hj h
    · rw [if_neg h2]
def wipeD (δ : List Sl) : List Nat → List Sl
  | [] => δ
  | v :: vs => (wipeD δ vs).set v .un
theorem wipeD_get (δ : List Sl) : ∀ (vs : List Nat) (i : Nat), (wipeD δ vs)[i]? = if i ∈ vs then (δ[i]?).map (fun _ => .un) else δ[i]?
  | [], i => by simp [wipeD]
  | v :: vs, i => by
    have hl : ∀ ws, (wipeD δ ws).length = δ.length := by
      intro ws
      induction ws with
      | nil => rfl
      | cons w ws ih => unfold wipeD; rw [List.length_set, ih]
    unfold wipeD
    rw [set_get, hl, wipeD_get δ vs i]
    by_cases h : v = i
    · subst h
      rw [if_pos rfl, if_pos List.mem_cons_self]
      by_cases h2 : v < δ.length
      · rw [if_pos h2, List.getElem?_eq_getElem h2]
        rfl
      · rw [if_neg h2, List.getElem?_eq_none (by omega)]
        rfl
    · rw [if_neg h]
      have : (i ∈ v :: vs) ↔ i ∈ vs := by
        rw [List.mem_cons]
        exact ⟨fun q => q.resolve_left (fun z => h z.symm), .inr⟩
      by_cases h3 : i ∈ vs
      · rw [if_pos h3, if_pos (this.mpr h3)]
      · rw [if_neg h3, if_neg (fun z => h3 (this.mp z))]
theorem wipeD_len (δ : List Sl) (ws : List Nat) : (wipeD δ ws).length = δ.length := by
  induction ws with
  | nil => rfl
  | cons w ws ih => unfold wipeD; rw [List.length_set, ih]
theorem wiped_at {δ : List Sl} {vs : List Nat} {i : Nat} {s : Sl} (h : (wipeD δ vs)[i]? = some s) (hs : s ≠ .un) : i ∉ vs ∧ δ[i]? = some s := by
  rw [wipeD_get] at h
  by_cases q : i ∈ vs
  · rw [if_pos q] at h
    cases z : δ[i]? with
    | none => rw [z] at h; cases h
    | some t =>
      rw [z] at h
      simp only [Option.map_some, Option.some.injEq] at h
      exact absurd h.symm hs
  · rw [if_neg q] at h
    exact ⟨q, h⟩
theorem EnvOk.wipe {W : Wo} {H0 G H : Hp} {σ : L2.St} {δ : List Sl} (e : EnvOk W H0 G H σ δ) (vs : List Nat) : EnvOk W H0 G H (L2.wipe σ vs) (wipeD δ vs) where
  len := by rw [wipe_length, wipeD_len]; exact e.len
  dat := fun i d h => by
    obtain ⟨hi, h⟩ := wiped_at h (by intro z; cases z)
    rw [wipe_get, if_neg hi]
    exact e.dat i d h
  mu := fun i ds h => by
    obtain ⟨hi, h⟩ := wiped_at h (by intro z; cases z)
    rw [wipe_get, if_neg hi]
    exact e.mu i ds h
  slf := fun i C fds h => by
    obtain ⟨hi, h⟩ := wiped_at h (by intro z; cases z)
    rw [wipe_get, if_neg hi]
    exact e.slf i C fds h
  sep := fun i j a s t hij hs ht so to h => by
    obtain ⟨hi, hs⟩ := wiped_at hs (by intro z; rw [z] at so; cases so)
    obtain ⟨hj, ht⟩ := wiped_at ht (by intro z; rw [z] at to; cases to)
    rw [wipe_get, if_neg hi] at h
    rw [wipe_get, if_neg hj]
    exact e.sep i j a s t hij hs ht so to h
theorem At.wipe {Γ : Cn} {δ : List Sl} {G H : Hp} {σ : L2.St} (a : At Γ δ G H σ) (vs : List Nat) : At Γ (wipeD δ vs) G H (L2.wipe σ vs) := ⟨a.fr, a.gd, a.env.wipe vs⟩

/-! ### what is walked -/
def Wk (W : Wo) (J : It) (ds : List Dt) (G : Hp) : Prop :=
  Walk J ds.length (fun H => Same G H) (fun i H x H' => ∀ G1, Same G G1 → Good W G1 H → ∃ G2 d, ds[i]? = some d ∧ Fr W G1 H G2 H' ∧ Good W G2 H' ∧ Dr W.K G2 x d)
def WD (Γ : Cn) (wi : TI) (δ : List Sl) (P : List Dt → Prop) : Prop :=
  ∀ G H σ (R : It → Hp → Prop), At Γ δ G H σ → (∀ J ds G' H', Fr Γ.W G H G' H' → Good Γ.W G' H' → Wk Γ.W J ds G' → P ds → R J H') → wi σ H R
/-- a target: js the slots that it stores -/
def GD (Γ : Cn) (g : TG) (js : List Nat) (δ : List Sl) (d : Dt) (P : List Sl → Prop) : Prop :=
  ∀ G H σ v (Q : L2.St → Hp → Prop), At Γ δ G H σ → Dr Γ.W.K G v d → (∀ δ' σ', At Γ δ' G H σ' → (∀ vs, (∀ j ∈ js, j ∈ vs) → wipe σ' vs = wipe σ vs) → P δ' → Q σ' H) → g v σ H Q
def GDs (Γ : Cn) (g : TGs) (js : List Nat) (δ : List Sl) (ds : List Dt) (P : List Sl → Prop) : Prop :=
  ∀ G H σ vs (Q : L2.St → Hp → Prop), At Γ δ G H σ → DrAll Γ.W.K G vs ds → (∀ δ' σ', At Γ δ' G H σ' → (∀ vs, (∀ j ∈ js, j ∈ vs) → wipe σ' vs = wipe σ vs) → P δ' → Q σ' H) → g vs σ H Q
section
variable {Γ : Cn} {δ : List Sl} {te ta tb tc : TE} {P : Dt → Prop}
theorem gd_name {i : Nat} {d : Dt} {P : List Sl → Prop} (h : P (δ.set i (.dat d))) : GD Γ (gName i) [i] δ d P := fun G H σ v Q at_ r k =>
  k _ _ ⟨at_.fr, at_.gd, at_.env.set r⟩ (fun vs hv => wipe_set σ _ (hv i List.mem_cons_self)) h
theorem gds_nil {P : List Sl → Prop} (h : P δ) : GDs Γ gNil [] δ [] P := fun G H σ vs Q at_ r k => by
  cases r
  exact ⟨rfl, k δ σ at_ (fun _ _ => rfl) h⟩
theorem gds_cons {g : TG} {u : TGs} {js ks : List Nat} {d : Dt} {ds : List Dt} {P : List Sl → Prop} (h : GD Γ g js δ d fun δ' => GDs Γ u ks δ' ds P) : GDs Γ (gCons g u) (js ++ ks) δ (d :: ds) P := fun G H σ vs Q at_ r k => by
  cases r with
  | cons r1 r2 =>
    refine ⟨_, _, rfl, h G H σ _ _ at_ r1 fun δ' σ' at1 hw q => ?_⟩
    refine q G H σ' _ Q at1 r2 fun δ2 σ2 at2 hw2 p => ?_
    exact k δ2 σ2 at2 (fun vs hv => (hw2 vs fun j hj => hv j (List.mem_append_right _ hj)).trans (hw vs fun j hj => hv j (List.mem_append_left _ hj))) p
theorem gd_tup {n : Nat} {g : TGs} {js : List Nat} {d : Dt} {P : List Sl → Prop} (h : ∃ ds, d = .tup ds ∧ ds.length = n ∧ GDs Γ g js δ ds P) : GD Γ (gTup Γ.W.K n g) js δ d P := fun G H σ v Q at_ r k => by
  obtain ⟨ds, rfl, hl, h⟩ := h
  cases r with
  | tup h1 h2 => exact ⟨_, _, rfl, sqT_mono at_.gd.sub h1, by rw [h2.length]; exact hl, h G H σ _ Q at_ h2 k⟩
theorem wd_list {tl : TE} {P : List Dt → Prop} (h : ED Γ tl δ fun d => ∃ ds, d = .lst ds ∧ P ds) : WD Γ (iList Γ.W.K tl) δ P := fun G H σ R at_ k =>
  h G H σ _ at_ fun v d G1 H1 f1 g1 d1 ⟨ds, e, p⟩ => by
    subst e
    cases d1 with
    | @lst a xs _ h1 h2 =>
      refine ⟨_, rfl, ⟨_, SqL.of (g1.sub _ _ h1)⟩, k _ ds G1 H1 f1 g1 ?_ p⟩
      have w := walk_list (K := Γ.W.K) (a := a) (xs := xs)
      rw [h2.length] at w
      refine w.mono (fun H q => SqL.of (q _ _ h1)) fun i H x H' hi q y => ?_
      obtain ⟨e, y⟩ := y
      subst e
      intro G2 e2 g2
      obtain ⟨d, hd, r⟩ := h2.get y
      exact ⟨G2, d, hd, Fr.refl _ _ _, g2, r.mono e2⟩
theorem wd_tup {tl : TE} {P : List Dt → Prop} (h : ED Γ tl δ fun d => ∃ ds, d = .tup ds ∧ P ds) : WD Γ (iTup Γ.W.K tl) δ P := fun G H σ R at_ k =>
  h G H σ _ at_ fun v d G1 H1 f1 g1 d1 ⟨ds, e, p⟩ => by
    subst e
    cases d1 with
    | @tup a xs _ h1 h2 =>
      refine ⟨_, rfl, ⟨_, sqT_mono g1.sub h1⟩, k _ ds G1 H1 f1 g1 ?_ p⟩
      have w := walk_tup (K := Γ.W.K) (a := a) (xs := xs)
      rw [h2.length] at w
      refine w.mono (fun H q => sqT_mono q h1) fun i H x H' hi q y => ?_
      obtain ⟨e, y⟩ := y
      subst e
      intro G2 e2 g2
      obtain ⟨d, hd, r⟩ := h2.get y
      exact ⟨G2, d, hd, Fr.refl _ _ _, g2, r.mono e2⟩
def upto (lo : Int) (n : Nat) : List Dt := (List.range n).map fun (i : Nat) => Dt.int (lo + (i : Int))
theorem upto_len (lo : Int) (n : Nat) : (upto lo n).length = n := by simp [upto]
theorem upto_get {lo : Int} {n i : Nat} {d : Dt} (h : (upto lo n)[i]? = some d) : i < n ∧ d = .int (lo + (i : Int)) := by
  have hl : i < (upto lo n).length := (List.getElem?_eq_some_iff.mp h).1
  rw [upto_len] at hl
  refine ⟨hl, ?_⟩
  unfold upto at h
  rw [List.getElem?_map, List.getElem?_range hl] at h
  exact (Option.some.inj h).symm
theorem upto_at {lo : Int} {n i : Nat} (h : i < n) : (upto lo n)[i]? = some (.int (lo + (i : Int))) := by
  unfold upto
  rw [List.getElem?_map, List.getElem?_range h]
  rfl
theorem wk_range {W : Wo} {lo : Int} {n : Nat} {G : Hp} : Wk W (Itr lo n) (upto lo n) G := by
  have w := walk_range (lo := lo) (n := n)
  unfold Wk
  rw [upto_len]
  refine w.mono (fun _ _ => trivial) fun i H x H' hi q y => ?_
  obtain ⟨e, y⟩ := y
  subst e
  subst y
  intro G2 e2 g2
  exact ⟨G2, _, upto_at hi, Fr.refl _ _ _, g2, .int _⟩
theorem wd_range1 {t : TA} {P : List Dt → Prop} (h : RA Γ t δ fun ds => ∃ j : Int, ds = [.int j] ∧ -(2 ^ 62) ≤ j ∧ j < 2 ^ 62 ∧ P (upto 0 j.toNat)) : WD Γ (iRng1 t) δ P := fun G H σ R at_ k =>
  h G H σ _ at_ fun vs ds G1 H1 f1 g1 d1 ⟨j, e, h1, h2, p⟩ => by
    subst e
    cases d1 with
    | cons r1 r2 =>
      cases r2
      have := r1.int
      subst this
      exact ⟨j, rfl, h1, h2, k _ _ G1 H1 f1 g1 wk_range p⟩
theorem wd_range2 {t : TA} {P : List Dt → Prop} (h : RA Γ t δ fun ds => ∃ i j : Int, ds = [.int i, .int j] ∧ (-(2 ^ 62) ≤ i ∧ i < 2 ^ 62 ∧ -(2 ^ 62) ≤ j ∧ j < 2 ^ 62) ∧ P (upto i (j - i).toNat)) : WD Γ (iRng2 t) δ P := fun G H σ R at_ k =>
  h G H σ _ at_ fun vs ds G1 H1 f1 g1 d1 ⟨i, j, e, h1, p⟩ => by
    subst e
    cases d1 with
    | cons r1 r2 =>
      cases r2 with
      | cons r2 r3 =>
        cases r3
        have := r1.int
        subst this
        have := r2.int
        subst this
        exact ⟨i, j, rfl, h1, k _ _ G1 H1 f1 g1 wk_range p⟩
def signs (z : Str) : List Dt := z.cps.toList.map fun c => .str ⟨#[c]⟩
theorem wd_str {tl : TE} {P : List Dt → Prop} (h : ED Γ tl δ fun d => ∃ z, d = .str z ∧ P (signs z)) : WD Γ (iStr tl) δ P := fun G H σ R at_ k =>
  h G H σ _ at_ fun v d G1 H1 f1 g1 d1 ⟨z, e, p⟩ => by
    subst e
    cases d1
    refine ⟨z, rfl, k _ _ G1 H1 f1 g1 ?_ p⟩
    have w := walk_str (z := z)
    unfold Wk
    rw [show (signs z).length = z.cps.size by simp [signs]]
    refine w.mono (fun _ _ => trivial) fun i H x H' hi q y => ?_
    obtain ⟨e, c, hc, y⟩ := y
    subst e
    subst y
    intro G2 e2 g2
    refine ⟨G2, .str ⟨#[c]⟩, ?_, Fr.refl _ _ _, g2, .str _⟩
    unfold signs
    rw [List.getElem?_map, Array.getElem?_toList, hc]
    rfl

/-! ### loops -/
theorem sd_for {wi : TI} {g : TG} {tb : TS} {js : List Nat} {D : De} (h : WD Γ wi δ fun ds => ∃ I : Nat → List Sl → Prop, I 0 δ ∧
    (∀ i x δ', ds[i]? = some x → I i δ' → GD Γ g js δ' x fun δ2 => SD Γ tb δ2 { nx := I (i + 1), ct := I (i + 1), bk := D.nx, rt := D.rt }) ∧ (∀ δ', I ds.length δ' → D.nx δ')) : SD Γ (tFor wi g tb) δ D := fun G H σ E at_ hn hr hb hc =>
  h G H σ _ at_ fun J ds G1 H1 f1 g1 w ⟨I, h0, hs, hd⟩ => by
    refine for_it w (fun i σ' H' => ∃ δ' G', Same G1 G' ∧ At Γ δ' G' H' σ' ∧ I i δ') ⟨δ, G1, Same.refl _, at_.step f1 g1, h0⟩ (fun i σ' H' _ ⟨δ', G', e, a, _⟩ => e.trans a.gd.sub) ?_ ?_
    · rintro i x σ' H' H2 hi ⟨δ', G', e, a, hI⟩ y
      obtain ⟨G2, d, hd', f2, g2, r⟩ := y G' e a.gd
      refine hs i d δ' hd' hI G2 H2 σ' x _ (a.step f2 g2) r fun δ2 σ2 a2 _ q => ?_
      refine q G2 H2 σ2 _ a2 ?_ hr ?_ ?_
      · intro δ3 G3 H3 σ3 e3 a3 q3
        exact ⟨δ3, G3, (e.trans f2.g).trans e3, a3, q3⟩
      · intro δ3 G3 H3 σ3 e3 a3 q3
        exact hn δ3 G3 H3 σ3 (((f1.g.trans e).trans f2.g).trans e3) a3 q3
      · intro δ3 G3 H3 σ3 e3 a3 q3
        exact ⟨δ3, G3, (e.trans f2.g).trans e3, a3, q3⟩
    · rintro σ' H' ⟨δ', G', e, a, hI⟩
      exact hn δ' G' H' σ' (f1.g.trans e) a (hd δ' hI)
/-! ### comprehensions -/
theorem nl_lc {wi : TI} {g : TG} {tt : TT} {vs js : List Nat} {P : List Dt → Prop} (hj : ∀ j ∈ js, j ∈ vs) (h : WD Γ wi δ fun ds => ds.length ≤ 100000 ∧ ∃ I : Nat → List Dt → Prop, I 0 [] ∧
    (∀ i x acc, ds[i]? = some x → I i acc → GD Γ g js (wipeD δ vs) x fun δ2 => TD Γ tt δ2 fun b => (b = true → ED Γ te δ2 fun y => I (i + 1) (acc ++ [y])) ∧ (b = false → I (i + 1) acc)) ∧ (∀ acc, I ds.length acc → P acc)) :
    NL Γ (tLc wi g tt te vs) δ P := fun G H σ Q at_ k =>
  h G H σ _ at_ fun J ds G1 H1 f1 g1 w ⟨hlen, I, h0, hs, hd⟩ D hD => by
    have gD : G1 D = none := g1.gn hD
    have mD : Γ.W.M ≠ some D := g1.nm hD
    have hHD : H D = none := fr_back f1 g1 hD
    have at1 := at_.step f1 g1
    refine lc_it w (fun i H' => ∃ G' xs acc, Fr Γ.W G1 H1 G' H' ∧ Good Γ.W G' H' ∧ G' D = none ∧ H' D = some (.lst xs) ∧ DrAll Γ.W.K G' xs acc ∧ xs.length ≤ i ∧ I i acc)
      ⟨G1, [], [], Fr.newM g1 hD, g1.setM gD mD, gD, upd_same, .nil, Nat.le_refl _, h0⟩ (fun i H' _ ⟨G', _, _, f, g, _⟩ => f.g.trans g.sub) ?_ ?_
    · rintro i x H' H2 hi ⟨G', xs, acc, f, gg, gDn, hDl, ra, hxl, hI⟩ y
      obtain ⟨G2, d, hd', f2, g2, r⟩ := y G' f.g gg
      have at2 : At Γ (wipeD δ vs) G2 H2 (wipe σ vs) := ((at1.step f gg).step f2 g2).wipe vs
      have D2 := f2.o D _ hDl gDn
      refine hs i d acc hd' hI G2 H2 (wipe σ vs) x _ at2 r fun δ2 σ2 a2 hw q => ⟨(hw vs hj).trans (wipe_wipe σ vs), ?_⟩
      refine q G2 H2 σ2 _ a2 fun b G3 H3 f3 g3 ⟨q1, q2⟩ => ?_
      have D3 := f3.o D _ (D2.2 mD) D2.1
      cases b with
      | true =>
        refine iteT ?_
        refine q1 rfl G3 H3 σ2 _ (a2.step f3 g3) fun v y G4 H4 f4 g4 d4 p4 => ?_
        have D4 := f4.o D _ (D3.2 mD) D3.1
        have f14 := ((f.trans f2 g2).trans f3 g3).trans f4 g4
        refine ⟨xs, D4.2 mD, Nat.lt_of_le_of_lt (Nat.le_trans hxl (Nat.le_of_lt (Nat.lt_of_lt_of_le hi hlen))) (by decide), G4, xs ++ [v], acc ++ [y], ?_, g4.setM D4.1 mD, D4.1, upd_same, ?_, ?_, p4⟩
        · refine ⟨f14.g, fun b u e gb => ?_⟩
          have hb : b ≠ D := ne_of_none e hD
          rw [upd_ne hb]
          exact f14.o b u e gb
        · exact ((((ra.mono f2.g).mono f3.g).mono f4.g)).append (.cons d4 .nil)
        · rw [List.length_append]
          show xs.length + 1 ≤ i + 1
          omega
      | false =>
        refine iteF ?_
        exact ⟨G3, xs, acc, (f.trans f2 g2).trans f3 g3, g3, D3.1, D3.2 mD, (ra.mono f2.g).mono f3.g, Nat.le_succ_of_le hxl, q2 rfl⟩
    · rintro H' ⟨G', xs, acc, f, gg, gDn, hDl, ra, _, hI⟩
      exact k D xs acc G' H' (f1.trans f gg) gg hHD hDl gDn ra (hd acc hI)
theorem td_yes {P : Bool → Prop} (p : P true) : TD Γ tYes δ P := fun G H σ Q at_ k => k true G H (Fr.refl _ _ _) at_.gd p

/-! ### own lists -/
theorem EnvOk.setMu {W : Wo} {H0 G H : Hp} {σ : L2.St} {δ : List Sl} (e : EnvOk W H0 G H σ δ) {i : Nat} {a : Addr} {xs : List V} {ds : List Dt} (hH : H a = some (.lst xs)) (hG : G a = none) (h0 : H0 a = none) (hm : W.M ≠ some a) (r : DrAll W.K G xs ds)
    (hn : ∀ j s, i ≠ j → δ[j]? = some s → s.own = true → σ[j]? ≠ some (some (.ref a))) : EnvOk W H0 G H (σ.set i (some (.ref a))) (δ.set i (.mu ds)) where
  len := by rw [List.length_set, List.length_set]; exact e.len
  dat := fun j d' hj => by
    rw [set_get] at hj ⊢
    by_cases q : i = j
    · rw [if_pos q] at hj
      split at hj <;> cases hj
    · rw [if_neg q] at hj ⊢
      exact e.dat j d' hj
  mu := fun j ds' hj => by
    rw [set_get] at hj ⊢
    by_cases q : i = j
    · rw [if_pos q] at hj ⊢
      by_cases q2 : i < δ.length
      · rw [if_pos q2] at hj
        rw [if_pos (by rw [e.len]; exact q2)]
        cases hj
        exact ⟨a, xs, rfl, hH, hG, h0, hm, r⟩
      · rw [if_neg q2] at hj
        cases hj
    · rw [if_neg q] at hj ⊢
      exact e.mu j ds' hj
  slf := fun j C fds hj => by
    rw [set_get] at hj ⊢
    by_cases q : i = j
    · rw [if_pos q] at hj
      split at hj <;> cases hj
    · rw [if_neg q] at hj ⊢
      exact e.slf j C fds hj
  sep := fun j k b s t hjk hj hk so to h1 => by
    rw [set_get] at hj hk h1 ⊢
    by_cases q : i = j
    · rw [if_pos q] at hj h1
      have q2 : i ≠ k := fun z => hjk (q.symm.trans z)
      rw [if_neg q2] at hk ⊢
      split at h1
      · cases h1
        exact hn k t q2 hk to
      · cases h1
    · rw [if_neg q] at hj h1
      by_cases q2 : i = k
      · rw [if_pos q2] at hk ⊢
        split
        · intro z
          cases z
          exact hn j s q hj so h1
        · intro z
          cases z
      · rw [if_neg q2] at hk ⊢
        exact e.sep j k b s t hjk hj hk so to h1
theorem sd_asgM {i : Nat} {D : De} (h : NL Γ te δ fun ds => D.nx (δ.set i (.mu ds))) : SD Γ (tAsg te (gName i)) δ D := fun G H σ E at_ hn hr hb hc =>
  h G H σ _ at_ fun a xs ds G1 H1 f1 g1 ha h1 h2 r p => by
    have e1 := at_.env.step f1
    refine hn _ G1 H1 _ f1.g ⟨at_.fr.trans f1 g1, g1, e1.setMu h1 h2 (at_.h0 ha) (at_.gd.nm ha) r ?_⟩ p
    intro j s hj hs so z
    cases s with
    | un => cases so
    | dat d => cases so
    | mu ds' =>
      obtain ⟨b, ys, k1, k2, _⟩ := at_.env.mu j ds' hs
      rw [k1] at z
      cases z
      rw [ha] at k2
      cases k2
    | slf C fds =>
      obtain ⟨b, dx, ys, k1, k2, _⟩ := at_.env.slf j C fds hs
      rw [k1] at z
      cases z
      rw [ha] at k2
      cases k2
/-- an own list is changed no more -/
theorem sd_freeze {i : Nat} {ds : List Dt} {ts : TS} {D : De} (hi : δ[i]? = some (.mu ds)) (h : SD Γ ts (δ.set i (.dat (.lst ds))) D) : SD Γ ts δ D := fun G H σ E at_ hn hr hb hc => by
  obtain ⟨a, xs, h1, h2, h3, h4, h5, h6⟩ := at_.env.mu i ds hi
  have sG : Same G (upd G a (.lst xs)) := same_new h3
  have gd2 : Good Γ.W (upd G a (.lst xs)) H := ⟨fun b u e => by
    by_cases q : b = a
    · subst q
      rw [upd_same] at e
      rw [← e]
      exact h2
    · rw [upd_ne q] at e
      exact at_.gd.sub b u e, fun b e => by
    obtain ⟨k1, k2⟩ := at_.gd.st b e
    have hba : b ≠ a := fun q => h5 (q ▸ e)
    rw [upd_ne hba]
    exact ⟨k1, k2⟩⟩
  have fr2 : Fr Γ.W Γ.G0 Γ.H0 (upd G a (.lst xs)) H := ⟨at_.fr.g.trans sG, fun b u e gb => by
    have q : b ≠ a := ne_of_none e h4
    rw [upd_ne q]
    exact at_.fr.o b u e gb⟩
  have hlen : i < δ.length := (List.getElem?_eq_some_iff.mp hi).1
  have env2 : EnvOk Γ.W Γ.H0 (upd G a (.lst xs)) H σ (δ.set i (.dat (.lst ds))) := {
    len := by rw [List.length_set]; exact at_.env.len
    dat := fun j d hj => by
      rw [set_get] at hj
      by_cases q : i = j
      · rw [if_pos q, if_pos hlen] at hj
        cases hj
        subst q
        exact ⟨.ref a, h1, .lst upd_same (h6.mono sG)⟩
      · rw [if_neg q] at hj
        obtain ⟨v, k1, k2⟩ := at_.env.dat j d hj
        exact ⟨v, k1, k2.mono sG⟩
    mu := fun j ds' hj => by
      rw [set_get] at hj
      by_cases q : i = j
      · rw [if_pos q, if_pos hlen] at hj
        cases hj
      · rw [if_neg q] at hj
        obtain ⟨b, ys, k1, k2, k3, k4, k5, k6⟩ := at_.env.mu j ds' hj
        have q2 : b ≠ a := fun z => at_.env.sep i j a _ _ q hi hj rfl rfl h1 (z ▸ k1)
        exact ⟨b, ys, k1, k2, by rw [upd_ne q2]; exact k3, k4, k5, k6.mono sG⟩
    slf := fun j C fds hj => by
      rw [set_get] at hj
      by_cases q : i = j
      · rw [if_pos q, if_pos hlen] at hj
        cases hj
      · rw [if_neg q] at hj
        obtain ⟨b, dx, ys, k1, k2, k3, k4, k5, k6, k7, k8, k9, k10⟩ := at_.env.slf j C fds hj
        have q2 : b ≠ a := fun z => by subst z; rw [h2] at k2; cases k2
        have q3 : dx ≠ a := fun z => by subst z; rw [h2] at k3; cases k3
        exact ⟨b, dx, ys, k1, k2, k3, by rw [upd_ne q2]; exact k4, by rw [upd_ne q3]; exact k5, k6, k7, k8, k9, k10.mono sG⟩
    sep := fun j k b s t hjk hj hk so to z => by
      rw [set_get] at hj hk
      by_cases q : i = j
      · rw [if_pos q, if_pos hlen] at hj
        cases hj
        cases so
      · rw [if_neg q] at hj
        by_cases q2 : i = k
        · rw [if_pos q2, if_pos hlen] at hk
          cases hk
          cases to
        · rw [if_neg q2] at hk
          exact at_.env.sep j k b s t hjk hj hk so to z }
  exact h (upd G a (.lst xs)) H σ E ⟨fr2, gd2, env2⟩ (fun δ2 G2 H2 σ2 e2 a2 q2 => hn δ2 G2 H2 σ2 (sG.trans e2) a2 q2) hr (fun δ2 G2 H2 σ2 e2 a2 q2 => hb δ2 G2 H2 σ2 (sG.trans e2) a2 q2) (fun δ2 G2 H2 σ2 e2 a2 q2 => hc δ2 G2 H2 σ2 (sG.trans e2) a2 q2)
/-- the own list in slot i is now ds' -/
theorem At.store {G H : Hp} {σ : L2.St} {i : Nat} {ds ds' : List Dt} {a : Addr} {xs xs' : List V} (at_ : At Γ δ G H σ) (hi : δ[i]? = some (.mu ds)) (hv : σ[i]? = some (some (.ref a))) (r : DrAll Γ.W.K G xs' ds') :
    At Γ (δ.set i (.mu ds')) G (upd H a (.lst xs')) σ := by
  obtain ⟨a', xs, h1, h2, h3, h4, h5, h6⟩ := at_.env.mu i ds hi
  rw [hv] at h1
  cases h1
  have hlen : i < δ.length := (List.getElem?_eq_some_iff.mp hi).1
  refine ⟨⟨at_.fr.g, fun b u e gb => ?_⟩, at_.gd.setM h3 h5, ?_⟩
  · have q : b ≠ a := ne_of_none e h4
    rw [upd_ne q]
    exact at_.fr.o b u e gb
  · exact {
      len := by rw [List.length_set]; exact at_.env.len
      dat := fun j d hj => by
        rw [set_get] at hj
        by_cases q : i = j
        · rw [if_pos q, if_pos hlen] at hj
          cases hj
        · rw [if_neg q] at hj
          exact at_.env.dat j d hj
      mu := fun j es hj => by
        rw [set_get] at hj
        by_cases q : i = j
        · rw [if_pos q, if_pos hlen] at hj
          cases hj
          subst q
          exact ⟨a, xs', hv, upd_same, h3, h4, h5, r⟩
        · rw [if_neg q] at hj
          obtain ⟨b, ys, k1, k2, k3, k4, k5, k6⟩ := at_.env.mu j es hj
          have q2 : b ≠ a := fun z => at_.env.sep i j a _ _ q hi hj rfl rfl hv (z ▸ k1)
          exact ⟨b, ys, k1, by rw [upd_ne q2]; exact k2, k3, k4, k5, k6⟩
      slf := fun j C fds hj => by
        rw [set_get] at hj
        by_cases q : i = j
        · rw [if_pos q, if_pos hlen] at hj
          cases hj
        · rw [if_neg q] at hj
          obtain ⟨b, dx, ys, k1, k2, k3, k4, k5, k6, k7, k8, k9, k10⟩ := at_.env.slf j C fds hj
          have q2 : b ≠ a := fun z => by subst z; rw [h2] at k2; cases k2
          have q3 : dx ≠ a := fun z => by subst z; rw [h2] at k3; cases k3
          exact ⟨b, dx, ys, k1, by rw [upd_ne q2]; exact k2, by rw [upd_ne q3]; exact k3, k4, k5, k6, k7, k8, k9, k10⟩
      sep := fun j k b s t hjk hj hk so to z => by
        rw [set_get] at hj hk
        by_cases q : i = j
        · subst q
          have q2 : i ≠ k := hjk
          rw [if_neg q2] at hk
          exact at_.env.sep i k b _ t hjk hi hk rfl to z
        · rw [if_neg q] at hj
          by_cases q2 : i = k
          · subst q2
            exact at_.env.sep j i b s _ hjk hj hi so rfl z
          · rw [if_neg q2] at hk
            exact at_.env.sep j k b s t hjk hj hk so to z }
theorem sd_app {i : Nat} {ds : List Dt} {D : De} (hi : δ[i]? = some (.mu ds)) (hl : ds.length < 100000) (h : ED Γ te δ fun d => D.nx (δ.set i (.mu (ds ++ [d])))) :
    SD Γ (tDrop (tBM Γ.W.K "list" rAppend (tVar i) (tCons te tNil))) δ D := fun G H σ E at_ hn hr hb hc => by
  obtain ⟨a, xs, h1, h2, h3, h4, h5, h6⟩ := at_.env.mu i ds hi
  refine ⟨.ref a, h1, .inl ⟨rfl, xs, .inl (.inl h2)⟩, h G H σ _ at_ fun v d G1 H1 f1 g1 d1 p1 => ?_⟩
  have k := f1.o a _ h2 h3
  refine ⟨a, xs, v, rfl, rfl, k.2 h5, ?_, ?_⟩
  · rw [h6.length]
    exact Nat.lt_trans hl (by decide)
  · exact hn _ G1 _ σ f1.g ((at_.step f1 g1).store hi h1 ((h6.mono f1.g).append (.cons d1 .nil)) (xs := xs)) p1
end

/-! ### promises -/
/-- a def over data: what it asks of the world and the data, what its answer is -/
def spW (K : PySem.W.Frag) (n : Nat) (Pre : Wo → List Dt → Prop) (R : List Dt → Dt → Prop) : Sp := fun vs H Q _ => vs.length = n ∧ ∃ W ds G, W.K = K ∧ Good W G H ∧ DrAll K G vs ds ∧ Pre W ds ∧
  ∀ v d G' H', Fr W G H G' H' → Good W G' H' → Dr K G' v d → R ds d → Q v H'
section
variable {Γ : Cn} {δ : List Sl} {P : Dt → Prop}
theorem ed_call {n : Nat} {Pre : Wo → List Dt → Prop} {R : List Dt → Dt → Prop} {E : XK} {t : TA} (h : AD Γ t δ fun ds => ds.length = n ∧ Pre Γ.W ds ∧ ∀ d, R ds d → P d) : ED Γ (tCall (spW Γ.W.K n Pre R) [] E t) δ P := fun G H σ Q at_ k =>
  h G H σ _ at_ fun vs ds G1 H1 f1 g1 d1 ⟨hl, p1, p2⟩ => by
    show spW Γ.W.K n Pre R (vs ++ []) H1 Q E
    rw [List.append_nil]
    exact ⟨d1.length.trans hl, Γ.W, ds, G1, rfl, g1, d1, p1, fun v d G' H' f g r q => k v d G' H' (f1.trans f g) g r (p2 d q)⟩
end
/-- the context of a def's body that lets no error out -/
def cn0 (W : Wo) (G H : Hp) : Cn := ⟨W, G, H, fun _ _ _ => False, fun _ _ => False, fun _ _ _ _ _ _ _ _ h => h⟩
def slots (n : Nat) (ds : List Dt) : List Sl := ds.map .dat ++ List.replicate (n - ds.length) .un
theorem at_start {W : Wo} {G H : Hp} {N : List Str} {vs : List V} {ds : List Dt} (g : Good W G H) (r : DrAll W.K G vs ds) : At (cn0 W G H) (slots N.length ds) G H (L2.start N vs) := by
  have hl := r.length
  refine ⟨Fr.refl _ _ _, g, ?_⟩
  have key : ∀ (i : Nat) (s : Sl), (slots N.length ds)[i]? = some s → s ≠ .un → ∃ d, ds[i]? = some d ∧ s = .dat d := by
    intro i s h hs
    unfold slots at h
    by_cases hi : i < (ds.map Sl.dat).length
    · rw [List.getElem?_append_left hi, List.getElem?_map] at h
      cases q : ds[i]? with
      | none => rw [q] at h; cases h
      | some d =>
        rw [q] at h
        exact ⟨d, rfl, (Option.some.inj h).symm⟩
    · rw [List.getElem?_append_right (by omega)] at h
      rw [List.getElem?_replicate] at h
      split at h
      · cases h
        exact absurd rfl hs
      · cases h
  refine ⟨?_, ?_, ?_, ?_, ?_⟩
  · unfold L2.start slots
    rw [List.length_append, List.length_append, List.length_map, List.length_map, List.length_replicate, List.length_replicate, hl]
  · intro i d h
    obtain ⟨d', hd, e⟩ := key i _ h (by intro z; cases z)
    cases e
    obtain ⟨v, hv, rr⟩ := r.getD hd
    refine ⟨v, ?_, rr⟩
    unfold L2.start
    rw [List.getElem?_append_left (by rw [List.length_map]; exact (List.getElem?_eq_some_iff.mp hv).1), List.getElem?_map, hv]
    rfl
  · intro i d h
    obtain ⟨d', hd, e⟩ := key i _ h (by intro z; cases z)
    cases e
  · intro i C d h
    obtain ⟨d', hd, e⟩ := key i _ h (by intro z; cases z)
    cases e
  · intro i j a s t _ hs ht so
    obtain ⟨d', hd, e⟩ := key i _ hs (by intro z; rw [z] at so; cases so)
    rw [e] at so
    cases so
/-- from a body over data to the promise's reading -/
theorem body_of {K : PySem.W.Frag} {n : Nat} {Pre : Wo → List Dt → Prop} {R : List Dt → Dt → Prop} {N : List Str} {t : TS} {vs : List V} {H : Hp} {Q : VK} {E : XK}
    (h : ∀ (Γ : Cn) ds, Γ.W.K = K → ds.length = n → Pre Γ.W ds → SD Γ t (slots N.length ds) { nx := fun _ => R ds .non, rt := R ds }) (hs : spW K n Pre R vs H Q E) : t { nx := fun _ H' => Q .non H', rt := Q } (L2.start N vs) H := by
  obtain ⟨hl, W, ds, G, rfl, g, r, p, k⟩ := hs
  refine h (cn0 W G H) ds rfl (r.length.symm.trans hl) p G H (L2.start N vs) _ (at_start g r) ?_ ?_ ?_ ?_
  · intro δ' G' H' σ' e a q
    exact k .non .non G' H' a.fr a.gd .non q
  · intro v d G' H' f g' rr q
    exact k v d G' H' f g' rr q
  · intro δ' G' H' σ' e a q
    exact q.elim
  · intro δ' G' H' σ' e a q
    exact q.elim
/-- a def whose answer is a new list -/
def spN (K : PySem.W.Frag) (n : Nat) (Pre : Wo → List Dt → Prop) (R : List Dt → List Dt → Prop) : Sp := fun vs H Q _ => vs.length = n ∧ ∃ W ds G, W.K = K ∧ Good W G H ∧ DrAll K G vs ds ∧ Pre W ds ∧
  ∀ a xs es G' H', Fr W G H G' H' → Good W G' H' → H a = none → H' a = some (.lst xs) → G' a = none → DrAll K G' xs es → R ds es → Q (.ref a) H'
theorem nl_call {Γ : Cn} {δ : List Sl} {P : List Dt → Prop} {n : Nat} {Pre : Wo → List Dt → Prop} {R : List Dt → List Dt → Prop} {E : XK} {t : TA} (h : AD Γ t δ fun ds => ds.length = n ∧ Pre Γ.W ds ∧ ∀ es, R ds es → P es) : NL Γ (tCall (spN Γ.W.K n Pre R) [] E t) δ P := fun G H σ Q at_ k =>
  h G H σ _ at_ fun vs ds G1 H1 f1 g1 d1 ⟨hl, p1, p2⟩ => by
    show spN Γ.W.K n Pre R (vs ++ []) H1 Q E
    rw [List.append_nil]
    exact ⟨d1.length.trans hl, Γ.W, ds, G1, rfl, g1, d1, p1, fun a xs es G' H' f g ha h1 h2 r q => k a xs es G' H' (f1.trans f g) g (fr_back f1 g1 ha) h1 h2 r (p2 es q)⟩
end Pd

set_option Elab.async false
set_option linter.all false
set_option maxRecDepth 100000
set_option maxHeartbeats 2000000
/-! Calls where no repr is under way (guards told): what repr of a list wants. -/
namespace Pg
open PySem PySem.Spec PyProof.Rows L2

structure FnG (P : Program) (w : World) (K : PySem.W.Frag) (mg : Str → Option Value) (base : Heap) (k : Nat) (f : Addr) (fd : FuncData) (ps : List Str) (sp : Sp) : Prop where
  ln : ∀ vs H Q E, sp vs H Q E → vs.length = ps.length
  go : ∀ (A : Around) (out : List Env) (s : Shared) (H : Hp) (args : Args) (us : List Value) (vs : List V) (Q : VK) (E : XK),
    Room k A → A.guards = some [] → Env0 P w K mg base A out s H → BindsTo s fd args (ps.zip us) → Vals vs us → sp vs H Q E →
    codeAny (model P w) A (.call (.ref f) args) (CR L2.CX0 out P w H s Q E) s
theorem FnG.of {P : Program} {w : World} {K : PySem.W.Frag} {mg : Str → Option Value} {base : Heap} {k : Nat} {f : Addr} {fd : FuncData} {ps : List Str} {sp : Sp} (F : FnOk P w K mg base L2.CX0 k f fd ps sp) : FnG P w K mg base k f fd ps sp :=
  ⟨F.len, fun A o s H args us vs Q E hr _ e hb hv hs => F.run A o s H args us vs Q E hr e hb hv hs⟩

/-- a def of the text whose body may show lists -/
theorem fnG_of {P : Program} {w : World} {K : PySem.W.Frag} {mg : Str → Option Value} {base : Heap} {k : Nat} {x qual : Str} {st : Stmt} {f : Addr} {fd : FuncData} {N ps : List Str} {sp : Sp}
    (F : Fun K x qual st f fd) (S : FnScope N ps (defScope st)) (hl : ∀ vs H Q E, sp vs H Q E → vs.length = ps.length)
    (bd : ∀ (cv : Value) (A : Around) (out : List Env) (s : Shared) (H : Hp) (vs : List V) (Q : VK) (E : XK), Room k (A.deeper (envOfC qual (defScope st) s.heap.objs.size f cv)) → A.guards = some [] → sp vs H Q E →
      ∃ t, PSs (cxOf L2.CX0 P w K mg base N qual (defScope st) f cv A out s H E).nox (defBody st) t ∧ t { nx := fun _ H' => Q .non H', rt := Q } (L2.start N vs) H) :
    FnG P w K mg base (k + 1) f fd ps sp := by
  obtain ⟨oc, od, kV, dc, pm, an, cv, ct, sl, rfl, lk, hcd⟩ := F.ex
  refine ⟨hl, ?_⟩
  intro A out s H args us vs Q E hr hgd e0 hb r hsp
  have inK : K.In s.heap := e0.mod.kin.keeps (fun b o e => (e0.bs b o e).1)
  have noL : s.heap.NoLimit := e0.mod.nolimit.keeps (fun b o e => (e0.bs b o e).1)
  have kinds : ∀ y ∈ ps.zip us, (defScope st).names.lookup y.1 = some .local ∨
      ((defScope st).names.lookup y.1 = some .cell ∧ ((cellsFrom (s.heap.objs.size + 1) (defScope st).names []).lookup y.1).isSome = true) := by
    intro y hy
    obtain ⟨n, v⟩ := y
    cases S.par n (List.of_mem_zip hy).1 with
    | inl q => exact Or.inl q
    | inr q => exact Or.inr ⟨q, PySem.W.cellsFrom_some _ _ _ (Or.inl q)⟩
  refine codeAny_call_function hr.depth (inK _ _ lk) rfl S.co S.gen rfl (PySem.W.codeRec_of inK hcd) (hb _ _ _ _ ?_)
  refine wpAny_newFunctionEnv_cells S.kind kinds (fun env he s1 ic => ?_)
  cases he
  refine ⟨noL.keeps ic.toInCall.keep, codeAny_func ?_⟩
  obtain ⟨t, ht, hq⟩ := bd cv A out s H vs Q E (hr.deeper _) hgd hsp
  have J0 := inv_start (CX := L2.CX0) (E := E) S hr.hd e0 (hl _ _ _ _ hsp) r ic
  refine wpAny_mono (ht.nox.run [] s1 (L2.start N vs) H _ J0 hq) ?_ (fun _ _ z => z)
  intro fl s' hs
  cases fl with
  | ret u =>
    obtain ⟨v, σ2, H2, J, rv, q⟩ := hs
    exact ⟨v, H2, J.os, J.bare, J.base, J.hok, rv, q⟩
  | next =>
    obtain ⟨σ2, H2, J, q⟩ := hs
    exact ⟨V.non, H2, J.os, J.bare, J.base, J.hok, rfl, q⟩
  | brk => exact False.elim hs.choose_spec.choose_spec.2
  | cont => exact False.elim hs.choose_spec.choose_spec.2

section
variable {X : Cx} {k : Nat} {f : Addr} {fd : FuncData} {ps : List Str} {sp : Sp} {E : XK} {x : Str} {p pos : Pos} {e : Expr} {es : List Expr} {t : TA}
/-- f(e, ..) of such a def -/
theorem peG_call (F : FnG X.prog X.w X.K X.mg X.base k f fd ps sp) (hgd : X.A.guards = some []) (hr : Room k X.A) (hg : Gl X x) (hm : X.mg x = some (.ref f)) (hk : PySem.W.keepIn X.K (.ref f) = true) (hb : Binds X.K fd ps [])
    (ha : PA X (e :: es) t) (hdb : (x == ("__debug__" : Str)) = false := by decide) (he : starEach (e :: es) X.env = (false, eval e X.env) :: starEach es X.env := by rfl)
    (hpl : (backTo pos (starEach es X.env)).any (·.1) = false := by rfl) : PE X (.Call (.Name x p) (e :: es) [] pos) (tCall sp [] E t) := by
  constructor
  intro pins s σ H Q I h
  refine wpAny_Call_Name_kw (ld_glob I hg hm ?_ hdb)
  refine PySem.W.callWith_K (h₀ := X.base) I.ok.mod.kin hk (thn (ha.run pos pins s σ H _ I h) ?_) he hpl
  intro us s1 hh
  obtain ⟨vs, H1, I1, r, q⟩ := hh
  refine ⟨I1.kIn, ?_⟩
  have q' : sp vs H1 Q E := by
    have z : sp (vs ++ []) H1 Q E := q
    rw [List.append_nil] at z
    exact z
  have hln : us.length = ps.length := by rw [← r.length]; exact F.ln _ _ _ _ q'
  have bb := hb s1 us I1.kIn (by rw [List.append_nil]; exact hln)
  rw [List.append_nil] at bb
  refine wpAny_call (codeAny_mono (F.go X.A X.stack s1 H1 ⟨us, []⟩ us vs Q E hr hgd I1.env0 bb r q') ?_)
  intro rr s' hq
  match rr, hq with
  | .error _, hq => exact False.elim hq
  | .ok (.ret _), hq => exact I1.after hq
  | .ok .next, hq => exact False.elim hq
  | .ok .brk, hq => exact False.elim hq
  | .ok .cont, hq => exact False.elim hq
end

/-- the law's call, by such a def's promise -/
theorem lawG_call {P : Program} {w : World} {K : PySem.W.Frag} {mg mb : Str → Option Value} {k : Nat} {fa a : Addr} {fd : FuncData} {x : Str} {sp : Sp} {s₁ : Shared} {vs : List Value} {ns : List Int}
    (KX : K.In s₁.heap) (gN : s₁.heap.Ns mainGlobals mg) (bN : s₁.heap.Ns builtinsNs mb) (bB : ∀ x : Str, x ≠ "__name__" → mb x = bootBuiltins x) (lim : s₁.heap.NoLimit) (hg : s₁.gens = #[])
    (ha : s₁.heap.get? a = some { cls := .type "list", data := .seq vs.toArray }) (hi : IntsAre vs ns) (hl : ns.length ≤ sizeLine) (hr : Room k callerA)
    (F : ∀ base : Heap, K.In base → base.Ns mainGlobals mg → FnG P w K mg base k fa fd [x] sp) (hbind : ∀ (s : Shared) (u : Value), BindsTo s fd ⟨[u], []⟩ [(x, u)])
    (hsp : ∀ H : Hp, Only H → SqL K H a (ns.map V.int) → sp [.ref a] H (fun v _ => v = .bl true) fun _ _ _ => False) :
    codeAny (model P w) callerA (.call (.ref fa) ⟨[.ref a], []⟩) (fun r s' => r = .ok (.ret (.bool true)) ∧ OldK s₁.heap s'.heap ∧ s'.os = s₁.os ∧ AllBare s'.gens) s₁ := by
  have rv := vals_ints hi
  have main : ∀ H : Hp, Only H → SqL K H a (ns.map V.int) → HOk P w H s₁.heap → (∀ b, H b ≠ none → b = a) → (H a ≠ none → K.lookup a = none) →
      codeAny (model P w) callerA (.call (.ref fa) ⟨[.ref a], []⟩) (fun r s' => r = .ok (.ret (.bool true)) ∧ OldK s₁.heap s'.heap ∧ s'.os = s₁.os ∧ AllBare s'.gens) s₁ := by
    intro H hO hS hok only noK
    have up : ∀ {b : Addr} {o : Obj}, s₁.heap.get? b = some o → H b = none → (hidT s₁.heap H).get? b = some o := fun e n => hidT_get e n
    have free : ∀ {b : Addr}, b ≠ a → H b = none := by
      intro b hb
      cases q : H b with
      | none => rfl
      | some u => exact absurd (only b (by rw [q]; exact Option.some_ne_none u)) hb
    have nsU : ∀ {b : Addr} {m : Str → Option Value}, s₁.heap.Ns b m → (hidT s₁.heap H).Ns b m := by
      intro b m hm
      obtain ⟨o, es, ep, e, d, r⟩ := hm
      refine ⟨o, es, ep, up e (free ?_), d, r⟩
      intro z
      subst z
      rw [ha] at e
      cases e
      cases (show Data.seq vs.toArray _ = Data.dict es ep from d)
    have kU : K.In (hidT s₁.heap H) := by
      intro b o e
      refine up (KX b o e) ?_
      cases q : H b with
      | none => rfl
      | some u =>
        have z : b = a := only b (by rw [q]; exact Option.some_ne_none u)
        subst z
        rw [noK (by rw [q]; exact Option.some_ne_none u)] at e
        cases e
    have md : Mod K mg (hidT s₁.heap H) := by
      refine ⟨kU, nsU gN, ⟨mb, nsU bN, bB⟩, ?_⟩
      obtain ⟨mc, h1, h2⟩ := lim
      exact ⟨mc, nsU h1, h2⟩
    have e0 : Env0 P w K mg (hidT s₁.heap H) callerA [] s₁ H := by
      refine ⟨rfl, md, fun b o e => of_hidT e, Nat.le_of_eq (hidT_size _ _), trivial, ?_, hok, .of_eq hg⟩
      intro b hb
      exact absurd hb (List.not_mem_nil)
    refine codeAny_mono ((F _ kU (nsU gN)).go callerA [] s₁ H ⟨[.ref a], []⟩ [.ref a] [.ref a] _ _ hr rfl e0 (hbind s₁ (.ref a)) (.cons rfl .nil) (hsp H hO hS)) ?_
    intro rr s' h
    match rr, h with
    | .error _, h => exact False.elim h
    | .ok .next, h => exact False.elim h
    | .ok .brk, h => exact False.elim h
    | .ok .cont, h => exact False.elim h
    | .ok (.ret u), h =>
      obtain ⟨v, H', os, bare, un, hok', r', q⟩ := h
      cases (show v = .bl true from q)
      cases (show u = Value.bool true from r')
      refine ⟨rfl, OldK.of_keep ?_, os, bare⟩
      intro b o e
      cases q : H b with
      | none => exact un.keep b o e q List.not_mem_nil List.not_mem_nil
      | some u =>
        cases hO b with
        | inl z => rw [q] at z; cases z
        | inr z =>
          obtain ⟨ob, xs, z⟩ := z
          have w1 := (hok b _ z).1
          have w2 := (hok' b _ (un.frzs b ob _ z)).1
          rw [e] at w1
          cases w1
          exact w2
  cases hk : K.lookup a with
  | some o =>
    have e := KX a o hk
    rw [ha] at e
    cases e
    have sq : SqL K (fun _ => none) a (ns.map V.int) := by
      refine Or.inr ⟨_, vs.toArray, _, hk, rfl, rfl, rfl, ?_, ?_⟩
      · rw [List.size_toArray, hi.length]
        exact hl
      · simpa using rv
    exact main (fun _ => none) (fun _ => Or.inl rfl) sq (fun b u z => nomatch z) (fun b z => absurd rfl z) (fun z => absurd rfl z)
  | none =>
    let Hs : Hp := fun b => if b = a then some (.frz { cls := .type "list", data := .seq vs.toArray } (.lst (ns.map V.int))) else none
    have hs1 : Hs a = some (.frz { cls := .type "list", data := .seq vs.toArray } (.lst (ns.map V.int))) := if_pos rfl
    have hs2 : ∀ b, b ≠ a → Hs b = none := fun b hb => if_neg hb
    refine main Hs ?_ (Or.inl (Or.inr ⟨_, hs1⟩)) ?_ ?_ (fun _ => hk)
    · intro b
      by_cases hb : b = a
      · subst hb
        exact Or.inr ⟨_, _, hs1⟩
      · exact Or.inl (hs2 b hb)
    · intro b u z
      by_cases hb : b = a
      · subst hb
        rw [hs1] at z
        cases z
        refine ⟨ha, ?_, vs, _, rv, ha⟩
        rw [List.length_map]
        exact hl
      · rw [hs2 b hb] at z
        cases z
    · intro b z
      by_cases hb : b = a
      · exact hb
      · exact absurd (hs2 b hb) z
theorem walkG_of {l : PySem.W.OpenLaw} {n k : Nat} {q : Program} {loose : List Str} {XP : (Str → Option Value) → Heap → Prop} {YP : World → Heap → Prop} {d : DefRec} {K : Params → PySem.W.Frag} {sp : World → Sp} {x : Str}
    (hn : l.most = some n) (n2 : n ≤ sizeLine) (df : d.params.defaults = []) (hr : Room k callerA) (hY : ∀ (w : World) (h : Heap), YP w h → (K w.params).In h)
    (F : ∀ (w : World) (mg : Str → Option Value) (fa : Addr) (h : Heap), (K w.params).In h → h.Ns mainGlobals mg → mg d.name = some (.ref fa) → ∃ fd : FuncData, (∀ (s : Shared) (u : Value), BindsTo s fd ⟨[u], []⟩ [(x, u)]) ∧
      ∀ base : Heap, (K w.params).In base → base.Ns mainGlobals mg → FnG l.prog w (K w.params) mg base k fa fd [x] (sp w))
    (hsp : ∀ (w : World) (H : Hp) (a : Addr) (ns : List Int), ns.length ≤ n → Only H → SqL (K w.params) H a (ns.map V.int) → sp w [.ref a] H (fun v _ => v = .bl true) fun _ _ _ => False) :
    PySem.W.WalkO q loose XP YP l.row.toRowW d [] (fun f vs => PySem.call f vs) := by
  refine Att.attach_call hn df ?_
  intro w s₀ s₁ mg mb fa o pm cd doc a vs ns G Y ho hd hcd hmg hobj hints hlen hg
  have inK := hY w _ Y
  obtain ⟨fd, hb, hF⟩ := F w mg fa _ inK G.T.g hmg
  exact lawG_call inK G.T.g G.T.b G.T.builtins G.T.nolimit hg hobj hints (Nat.le_trans hlen n2) hr hF hb (fun H hO hS => hsp w H a ns hlen hO hS)

/-! ### repr of data -/
/-- repr(x), x plain data -/
def rRepr (K : PySem.W.Frag) : List V → Hp → VK → Prop := fun xs H Q => ∃ x d, xs = [x] ∧ Dp K H x d ∧ d.showable = true ∧ d.hasDict = false ∧ d.depth ≤ 60 ∧ d.shown.length ≤ sizeLine ∧ Q (.str d.shown) H
theorem call_repr {X : Cx} (hgd : X.A.guards = some []) (hu : X.A.units + 64 < cLine) : CallR X (.builtin "repr") (rRepr X.K) := by
  intro pins s σ H xs us Q I r h
  obtain ⟨x, d, rfl, hd, hsh, hdi, hdp, hsz, q⟩ := h
  obtain ⟨u, rfl, rx⟩ := vals1 r
  obtain ⟨as, rr⟩ := Dp.reads I d x u hd rx
  have fin : ∀ (h' : Heap) (tt : Tok) (tk : Nat), (∀ b o, s.heap.get? b = some o → h'.get? b = some o) → EP X pins σ Q (.str d.shown tt) { s with heap := h', toks := tk } :=
    fun h' tt tk k => ⟨.str d.shown, H, I.kept k, ⟨tt, rfl⟩, q⟩
  have go : ∀ a, u = .ref a → wpAny (model X.prog X.w) X.A (call (.builtin "repr") [u]) (EP X pins σ Q) X.xe s := by
    intro a e
    subst e
    exact repr_of_reads' rr hsh (fun z => absurd z (by rw [hdi]; decide)) hgd (by omega) (fun _ _ e => e) (fun h' tt tk k => fin h' tt tk k) hsz
  cases rr with
  | none => exact PySem.P.repr_of_none (fin _ _ _ fun _ _ e => e)
  | bool b => exact PySem.P.repr_of_bool (fin _ _ _ fun _ _ e => e)
  | int i t =>
    have hb : i.natAbs.log2 < 1920 := by simpa [PyData.showable] using hsh
    exact PySem.P.repr_of_int hb (fin _ _ _ fun _ _ e => e)
  | str y t => exact PySem.P.repr_of_str (fin _ _ _ fun _ _ e => e) (by simpa [PyData.shown] using hsz)
  | list => exact go _ rfl
  | tuple => exact go _ rfl
  | dict => exact go _ rfl
end Pg

set_option Elab.async false
set_option linter.all false
set_option maxRecDepth 100000
set_option maxHeartbeats 2000000
namespace Pd
open PySem PySem.Spec PyProof.Rows L2

/-! ### a value for a name: a datum, or a new list of one's own -/
def SlV (W : Wo) (H G' H' : Hp) (v : V) : Sl → Prop
  | .dat d => Dr W.K G' v d
  | .mu ds => ∃ a xs, v = .ref a ∧ H a = none ∧ H' a = some (.lst xs) ∧ G' a = none ∧ DrAll W.K G' xs ds
  | _ => False
def VD (Γ : Cn) (te : TE) (δ : List Sl) (P : Sl → Prop) : Prop :=
  ∀ G H σ (Q : VK), At Γ δ G H σ → (∀ v s G' H', Fr Γ.W G H G' H' → Good Γ.W G' H' → SlV Γ.W H G' H' v s → P s → Q v H') → te σ H Q
section
variable {Γ : Cn} {δ : List Sl} {te ta tb tc : TE}
theorem vd_ed {P : Sl → Prop} (h : ED Γ te δ fun d => P (.dat d)) : VD Γ te δ P := fun G H σ Q at_ k => h G H σ Q at_ fun v d G' H' f g r p => k v (.dat d) G' H' f g r p
theorem vd_nl {P : Sl → Prop} (h : NL Γ te δ fun ds => P (.mu ds)) : VD Γ te δ P := fun G H σ Q at_ k => h G H σ Q at_ fun a xs ds G' H' f g h1 h2 h3 r p => k (.ref a) (.mu ds) G' H' f g ⟨a, xs, rfl, h1, h2, h3, r⟩ p
/-- what a slot may be given -/
def OwnV (W : Wo) (H0 G H : Hp) (v : V) : Sl → Prop
  | .dat d => Dr W.K G v d
  | .mu ds => ∃ a xs, v = .ref a ∧ H a = some (.lst xs) ∧ G a = none ∧ H0 a = none ∧ W.M ≠ some a ∧ DrAll W.K G xs ds
  | _ => False
theorem SlV.own {G H G' H' : Hp} {σ : L2.St} {v : V} {s : Sl} (at_ : At Γ δ G H σ) (h : SlV Γ.W H G' H' v s) : OwnV Γ.W Γ.H0 G' H' v s := by
  cases s with
  | dat d => exact h
  | mu ds =>
    obtain ⟨a, xs, h1, h2, h3, h4, h5⟩ := h
    exact ⟨a, xs, h1, h3, h4, at_.h0 h2, at_.gd.nm h2, h5⟩
  | un => exact h.elim
  | slf C fs => exact h.elim
theorem OwnV.step {W : Wo} {H0 G H G' H' : Hp} {v : V} {s : Sl} (h : OwnV W H0 G H v s) (f : Fr W G H G' H') : OwnV W H0 G' H' v s := by
  cases s with
  | dat d => exact Dr.mono f.g h
  | mu ds =>
    obtain ⟨a, xs, h1, h2, h3, h4, h5, h6⟩ := h
    obtain ⟨k1, k2⟩ := f.o a _ h2 h3
    exact ⟨a, xs, h1, k2 h5, k1, h4, h5, h6.mono f.g⟩
  | un => exact h.elim
  | slf C fs => exact h.elim
theorem EnvOk.setS {W : Wo} {H0 G H : Hp} {σ : L2.St} {δ : List Sl} (e : EnvOk W H0 G H σ δ) {i : Nat} {v : V} {s : Sl} (h : OwnV W H0 G H v s)
    (hn : s.own = true → ∀ (j : Nat) (t : Sl), i ≠ j → δ[j]? = some t → t.own = true → σ[j]? ≠ some (some v)) : EnvOk W H0 G H (σ.set i (some v)) (δ.set i s) := by
  cases s with
  | dat d => exact e.set h
  | mu ds =>
    obtain ⟨a, xs, rfl, h2, h3, h4, h5, h6⟩ := h
    exact e.setMu h2 h3 h4 h5 h6 fun j t hj ht to => hn rfl j t hj ht to
  | un => exact h.elim
  | slf C fs => exact h.elim
/-- no slot owns what was new -/
theorem At.apart {G H : Hp} {σ : L2.St} (at_ : At Γ δ G H σ) {a : Addr} (ha : H a = none) : ∀ (j : Nat) (t : Sl), δ[j]? = some t → t.own = true → σ[j]? ≠ some (some (.ref a)) := by
  intro j t ht to z
  cases t with
  | un => cases to
  | dat d => cases to
  | mu ds =>
    obtain ⟨b, ys, k1, k2, _⟩ := at_.env.mu j ds ht
    rw [k1] at z
    cases z
    rw [ha] at k2
    cases k2
  | slf C fds =>
    obtain ⟨b, dx, ys, k1, k2, _⟩ := at_.env.slf j C fds ht
    rw [k1] at z
    cases z
    rw [ha] at k2
    cases k2
theorem SlV.apart {G H G' H' : Hp} {σ : L2.St} {v : V} {s : Sl} (at_ : At Γ δ G H σ) (h : SlV Γ.W H G' H' v s) : s.own = true → ∀ (j : Nat) (t : Sl), δ[j]? = some t → t.own = true → σ[j]? ≠ some (some v) := by
  intro so j t ht to
  cases s with
  | dat d => cases so
  | mu ds =>
    obtain ⟨a, xs, rfl, h2, _⟩ := h
    exact at_.apart h2 j t ht to
  | un => cases so
  | slf C fs => exact h.elim
theorem sd_asgV {i : Nat} {D : De} (h : VD Γ te δ fun s => D.nx (δ.set i s)) : SD Γ (tAsg te (gName i)) δ D := fun G H σ E at_ hn hr hb hc =>
  h G H σ _ at_ fun v s G1 H1 f1 g1 r p => hn _ G1 H1 _ f1.g ⟨at_.fr.trans f1 g1, g1, (at_.env.step f1).setS (r.own at_) fun so j t _ ht to => r.apart at_ so j t ht to⟩ p
theorem SlV.ne {G H G1 H1 G2 H2 : Hp} {σ : L2.St} {v w : V} {s t : Sl} (at_ : At Γ δ G H σ) (h : SlV Γ.W H G1 H1 v s) (h' : SlV Γ.W H1 G2 H2 w t) (so : s.own = true) (to : t.own = true) : v ≠ w := by
  cases s with
  | dat d => cases so
  | un => cases so
  | slf C fs => exact h.elim
  | mu ds =>
    cases t with
    | dat d => cases to
    | un => cases to
    | slf C fs => exact h'.elim
    | mu es =>
      obtain ⟨a, xs, rfl, h2, h3, _⟩ := h
      obtain ⟨b, ys, rfl, k2, k3, _⟩ := h'
      intro z
      cases z
      rw [k2] at h3
      cases h3
theorem sd_par {i j : Nat} {D : De} (hij : i ≠ j) (h : VD Γ ta δ fun s => VD Γ tb δ fun t => D.nx ((δ.set i s).set j t)) : SD Γ (tPar i j (tCons ta (tCons tb tNil))) δ D := fun G H σ E at_ hn hr hb hc =>
  h G H σ _ at_ fun v s G1 H1 f1 g1 r1 p1 => by
    have at1 := at_.step f1 g1
    refine p1 G1 H1 σ _ at1 fun w t G2 H2 f2 g2 r2 p2 => ⟨v, w, rfl, ?_⟩
    refine hn _ G2 H2 _ (f1.g.trans f2.g) ⟨at1.fr.trans f2 g2, g2, ?_⟩ p2
    refine ((at1.env.step f2).setS ((r1.own at_).step f2) fun so j' t' _ ht to => ?_).setS (r2.own at1) fun to k t' hk ht' to' => ?_
    · exact r1.apart at_ so j' t' ht to
    · rw [set_get] at ht' ⊢
      by_cases q : i = k
      · rw [if_pos q] at ht' ⊢
        split at ht'
        · cases ht'
          split
          · intro z
            exact r1.ne at_ r2 to' to (Option.some.inj (Option.some.inj z))
          · intro z
            cases z
        · cases ht'
      · rw [if_neg q] at ht' ⊢
        exact r2.apart at1 to k t' ht' to'

/-! ### an own list becomes the object that callees may change -/
theorem fr_enter {W : Wo} {a : Addr} {J : HO → Prop} {G0 H0 G H : Hp} (hm : W.M = none) (h0 : H0 a = none) (f : Fr ⟨W.K, some a, J⟩ G0 H0 G H) : Fr W G0 H0 G H :=
  ⟨f.g, fun b u e g => by
    obtain ⟨k1, k2⟩ := f.o b u e g
    refine ⟨k1, fun _ => k2 fun z => ?_⟩
    cases z
    rw [h0] at e
    cases e⟩
theorem good_leave {W : Wo} {a : Addr} {J : HO → Prop} {G H : Hp} (hm : W.M = none) (g : Good ⟨W.K, some a, J⟩ G H) : Good W G H := ⟨g.sub, fun b e => by rw [hm] at e; cases e⟩
def Cn.enter (Γ : Cn) (a : Addr) (J : HO → Prop) (hm : Γ.W.M = none) (h0 : Γ.H0 a = none) : Cn where
  W := ⟨Γ.W.K, some a, J⟩
  G0 := Γ.G0
  H0 := Γ.H0
  E := Γ.E
  X := Γ.X
  hE := fun C d fds G H f g x hx => Γ.hE C d fds G H (fr_enter hm h0 f) (good_leave hm g) x hx
theorem sd_enter {i : Nat} {ds : List Dt} {ts : TS} {D : De} (J : HO → Prop) (hm : Γ.W.M = none) (hi : δ[i]? = some (.mu ds)) (hj : ∀ G xs, DrAll Γ.W.K G xs ds → J (.lst xs))
    (h : ∀ a h0, SD (Γ.enter a J hm h0) ts (δ.set i (.dat (.raw (.ref a)))) D) : SD Γ ts δ D := fun G H σ E at_ hn hr hb hc => by
  obtain ⟨a, xs, h1, h2, h3, h4, h5, h6⟩ := at_.env.mu i ds hi
  have hlen : i < δ.length := (List.getElem?_eq_some_iff.mp hi).1
  have env2 : EnvOk ⟨Γ.W.K, some a, J⟩ Γ.H0 G H σ (δ.set i (.dat (.raw (.ref a)))) := {
    len := by rw [List.length_set]; exact at_.env.len
    dat := fun j d hj => by
      rw [set_get] at hj
      by_cases q : i = j
      · rw [if_pos q, if_pos hlen] at hj
        cases hj
        subst q
        exact ⟨.ref a, h1, .raw _⟩
      · rw [if_neg q] at hj
        exact at_.env.dat j d hj
    mu := fun j ds' hj => by
      rw [set_get] at hj
      by_cases q : i = j
      · rw [if_pos q, if_pos hlen] at hj
        cases hj
      · rw [if_neg q] at hj
        obtain ⟨b, ys, k1, k2, k3, k4, k5, k6⟩ := at_.env.mu j ds' hj
        refine ⟨b, ys, k1, k2, k3, k4, fun z => ?_, k6⟩
        cases z
        exact at_.env.sep i j a _ _ q hi hj rfl rfl h1 k1
    slf := fun j C fds hj => by
      rw [set_get] at hj
      by_cases q : i = j
      · rw [if_pos q, if_pos hlen] at hj
        cases hj
      · rw [if_neg q] at hj
        obtain ⟨b, dx, ys, k1, k2, k3, k4, k5, k6, k7, k8, k9, k10⟩ := at_.env.slf j C fds hj
        refine ⟨b, dx, ys, k1, k2, k3, k4, k5, k6, k7, fun z => ?_, fun z => ?_, k10⟩
        · cases z; rw [h2] at k2; cases k2
        · cases z; rw [h2] at k3; cases k3
    sep := fun j k b s t hjk hj hk so to z => by
      rw [set_get] at hj hk
      by_cases q : i = j
      · rw [if_pos q, if_pos hlen] at hj
        cases hj
        cases so
      · rw [if_neg q] at hj
        by_cases q2 : i = k
        · rw [if_pos q2, if_pos hlen] at hk
          cases hk
          cases to
        · rw [if_neg q2] at hk
          exact at_.env.sep j k b s t hjk hj hk so to z }
  have fr2 : Fr ⟨Γ.W.K, some a, J⟩ Γ.G0 Γ.H0 G H := ⟨at_.fr.g, fun b u e g => by
    obtain ⟨k1, k2⟩ := at_.fr.o b u e g
    exact ⟨k1, fun _ => k2 (fun z => by rw [hm] at z; cases z)⟩⟩
  have gd2 : Good ⟨Γ.W.K, some a, J⟩ G H := ⟨at_.gd.sub, fun b e => by cases e; exact ⟨h3, _, h2, hj G xs h6⟩⟩
  have back : ∀ {δ' : List Sl} {G' H' : Hp} {σ' : L2.St}, At (Γ.enter a J hm h4) δ' G' H' σ' → At Γ δ' G' H' σ' := fun {δ' G' H' σ'} z =>
    ⟨fr_enter hm h4 z.fr, good_leave hm z.gd, {
      len := z.env.len
      dat := z.env.dat
      mu := fun j ds' hj => by
        obtain ⟨b, ys, k1, k2, k3, k4, k5, k6⟩ := z.env.mu j ds' hj
        exact ⟨b, ys, k1, k2, k3, k4, (fun z => by rw [hm] at z; cases z), k6⟩
      slf := fun j C fds hj => by
        obtain ⟨b, dx, ys, k1, k2, k3, k4, k5, k6, k7, k8, k9, k10⟩ := z.env.slf j C fds hj
        exact ⟨b, dx, ys, k1, k2, k3, k4, k5, k6, k7, (fun z => by rw [hm] at z; cases z), (fun z => by rw [hm] at z; cases z), k10⟩
      sep := z.env.sep }⟩
  exact h a h4 G H σ E ⟨fr2, gd2, env2⟩ (fun δ' G' H' σ' e z q => hn δ' G' H' σ' e (back z) q) (fun v d G' H' f g r q => hr v d G' H' (fr_enter hm h4 f) (good_leave hm g) r q)
    (fun δ' G' H' σ' e z q => hb δ' G' H' σ' e (back z) q) (fun δ' G' H' σ' e z q => hc δ' G' H' σ' e (back z) q)
end

/-! ### operators, by any data -/
def rAddA (K : PySem.W.Frag) : R2 := fun x y H Q => (rI0 (fun i j => .int (i + j)) x y H Q ∨ ∃ i j, x = .str i ∧ y = .str j ∧ i.length + j.length ≤ sizeLine ∧ Q (.str (i ++ j)) H) ∨ (rCat x y H Q ∨ rCatA K x y H Q)
theorem opAdd {X : Cx} : OpR X (binaryOp .Add) (rAddA X.K) := (op_add.or op_add_str).or (op_cat.or op_catA)
def rMulA : R2 := fun x y H Q => rI CMul (fun i j => .int (i * j)) x y H Q ∨ rRep x y H Q
theorem opMul {X : Cx} : OpR X (binaryOp .Mult) rMulA := op_mul.or op_rep
def rEqA (K : PySem.W.Frag) : R2 := fun x y H Q => rEqD K x y H Q ∨ rEq x y H Q
theorem opEq {X : Cx} (hu : X.A.units + 64 < cLine) : OpR X (compareOp .Eq) (rEqA X.K) := (op_eqD hu).or op_eq
def rNeA (K : PySem.W.Frag) : R2 := fun x y H Q => rNeD K x y H Q ∨ rNe x y H Q
theorem opNe {X : Cx} (hu : X.A.units + 64 < cLine) : OpR X (compareOp .NotEq) (rNeA X.K) := (op_neD hu).or op_ne
def rInA (K : PySem.W.Frag) : R2 := fun x y H Q => (rInD K x y H Q ∨ rIn K false x y H Q) ∨ ((∃ (c : Nat) (z : Str), x = .str ⟨#[c]⟩ ∧ y = .str z ∧ Q (.bl (decide (c ∈ z.cps.toList))) H) ∨ ∃ i j, x = .str i ∧ y = .str j ∧ Q (.bl (!(Builtin.Str.occurrences j i 0 j.length 1).isEmpty)) H)
theorem opIn {X : Cx} (hu : X.A.units + 65 < cLine) : OpR X (compareOp .In) (rInA X.K) := ((op_inD hu).or op_in_seq).or (op_in_sign.or op_in_str)
def rNotInA (K : PySem.W.Frag) : R2 := fun x y H Q => rNotInD K x y H Q ∨ rIn K true x y H Q
theorem opNotIn {X : Cx} (hu : X.A.units + 65 < cLine) : OpR X (compareOp .NotIn) (rNotInA X.K) := (op_notInD hu).or op_notIn_seq
def rSlAny (K : PySem.W.Frag) : V → Option Int → Option Int → Hp → VK → Prop := fun x lo hi H Q => (rSlL K x lo hi H Q ∨ rSlS x lo hi H Q) ∨ rSlA K x lo hi H Q
theorem slAny {X : Cx} : L2.SlR X (rSlAny X.K) := (sl_list.or sl_str).or sl_tupA
section
variable {W : Wo} {P : Dt → Prop}
theorem od_of {r : R2} {x y z : Dt} (h : ∀ G H v w (Q : VK), Good W G H → Dv W G H v x → Dv W G H w y → (∀ u, Dr W.K G u z → Q u H) → r v w H Q) (p : P z) : OD W r x y P := fun G H v w Q g hv hw k =>
  h G H v w Q g hv hw fun u r => k u z G H (Fr.refl _ _ _) g r p
theorem od_addI {i j : Int} (p : P (.int (i + j))) : OD W (rAddA W.K) (.int i) (.int j) P := od_of (fun G H v w Q g hv hw k => by
  cases hv.int; cases hw.int; exact .inl (.inl ⟨i, j, rfl, rfl, k _ (.int _)⟩)) p
theorem od_addS {x y : Str} (hl : x.length + y.length ≤ 100000) (p : P (.str (x ++ y))) : OD W (rAddA W.K) (.str x) (.str y) P := od_of (fun G H v w Q g hv hw k => by
  cases hv.str; cases hw.str; exact .inl (.inr ⟨x, y, rfl, rfl, Nat.le_trans hl (by decide), k _ (.str _)⟩)) p
theorem od_addL {xs ys : List Dt} (hl : xs.length + ys.length ≤ 100000) (p : P (.lst (xs ++ ys))) : OD W (rAddA W.K) (.lst xs) (.lst ys) P := fun G H v w Q g hv hw k => by
  obtain ⟨a, us, rfl, h1, r1⟩ := hv.lst g
  obtain ⟨b, ws, rfl, h2, r2⟩ := hw.lst g
  refine .inr (.inl ⟨a, b, us, ws, rfl, rfl, h1, h2, by rw [r1.length, r2.length]; exact Nat.le_trans hl (by decide), fun q hq => ?_⟩)
  exact k _ _ (upd G q (.lst (us ++ ws))) _ (Fr.new g hq) (g.new hq) (.lst upd_same ((r1.append r2).mono (same_new (g.gn hq)))) p
theorem od_addT {xs ys : List Dt} (hl : xs.length + ys.length ≤ 100000) (p : P (.tup (xs ++ ys))) : OD W (rAddA W.K) (.tup xs) (.tup ys) P := fun G H v w Q g hv hw k => by
  obtain ⟨a, us, rfl, h1, r1⟩ := hv.tup
  obtain ⟨b, ws, rfl, h2, r2⟩ := hw.tup
  refine .inr (.inr ⟨a, b, us, ws, rfl, rfl, sqT_mono g.sub h1, sqT_mono g.sub h2, by rw [r1.length, r2.length]; exact Nat.le_trans hl (by decide), fun e => ?_, fun e e2 => ?_, fun e e2 q hq => ?_⟩)
  · subst e
    cases r1
    exact k _ _ G H (Fr.refl _ _ _) g (.tup h2 r2) p
  · subst e2
    cases r2
    rw [List.append_nil] at p
    exact k _ _ G H (Fr.refl _ _ _) g (.tup h1 r1) p
  · exact k _ _ (upd G q (.tup (us ++ ws))) _ (Fr.new g hq) (g.new hq) (.tup (.inl (.inl upd_same)) ((r1.append r2).mono (same_new (g.gn hq)))) p
theorem od_I0 {f : Int → Int → V} {i j : Int} {z : Dt} (hz : ∀ G, Dr W.K G (f i j) z) (p : P z) : OD W (rI0 f) (.int i) (.int j) P := od_of (fun G H v w Q g hv hw k => by
  cases hv.int; cases hw.int; exact ⟨i, j, rfl, rfl, k _ (hz G)⟩) p
theorem od_I {C : Int → Int → Prop} {f : Int → Int → V} {i j : Int} {z : Dt} (hc : C i j) (hz : ∀ G, Dr W.K G (f i j) z) (p : P z) : OD W (rI C f) (.int i) (.int j) P := od_of (fun G H v w Q g hv hw k => by
  cases hv.int; cases hw.int; exact ⟨i, j, rfl, rfl, hc, k _ (hz G)⟩) p
theorem od_subI {i j : Int} (p : P (.int (i - j))) : OD W (rI0 fun i j => .int (i - j)) (.int i) (.int j) P := od_I0 (fun _ => .int _) p
theorem od_lt {i j : Int} (p : P (.bl (decide (i < j)))) : OD W (rI0 fun i j => .bl (decide (i < j))) (.int i) (.int j) P := od_I0 (fun _ => .bl _) p
theorem od_le {i j : Int} (p : P (.bl (decide (i ≤ j)))) : OD W (rI0 fun i j => .bl (decide (i ≤ j))) (.int i) (.int j) P := od_I0 (fun _ => .bl _) p
theorem od_gt {i j : Int} (p : P (.bl (decide (j < i)))) : OD W (rI0 fun i j => .bl (decide (j < i))) (.int i) (.int j) P := od_I0 (fun _ => .bl _) p
theorem od_ge {i j : Int} (p : P (.bl (decide (j ≤ i)))) : OD W (rI0 fun i j => .bl (decide (j ≤ i))) (.int i) (.int j) P := od_I0 (fun _ => .bl _) p
theorem od_mulI {i j : Int} (hc : CMul i j) (p : P (.int (i * j))) : OD W rMulA (.int i) (.int j) P := od_of (fun G H v w Q g hv hw k => by
  cases hv.int; cases hw.int; exact .inl ⟨i, j, rfl, rfl, hc, k _ (.int _)⟩) p
theorem od_rep {xs : List Dt} {n : Nat} (hl : xs.length * n ≤ 100000) (hn : n ≤ 100000) (p : P (.lst (List.replicate n xs).flatten)) : OD W rMulA (.lst xs) (.int (n : Int)) P := fun G H v w Q g hv hw k => by
  obtain ⟨a, us, rfl, h1, r1⟩ := hv.lst g
  cases hw.int
  refine .inr ⟨a, (n : Int), us, rfl, rfl, h1, by omega, by omega, by rw [r1.length, Int.toNat_natCast]; exact Nat.le_trans hl (by decide), fun q hq => ?_⟩
  rw [Int.toNat_natCast]
  exact k _ _ (upd G q (.lst (List.replicate n us).flatten)) _ (Fr.new g hq) (g.new hq) (.lst upd_same ((r1.replicate n).mono (same_new (g.gn hq)))) p
theorem od_mod {i j : Int} (hj : 0 < j) (p : P (.int (i % j))) : OD W (rI (fun _ j => 0 < j) fun i j => .int (i % j)) (.int i) (.int j) P := od_I (C := fun _ j => 0 < j) hj (fun _ => .int _) p
theorem od_div {i j : Int} (hc : CDivW i j) (p : P (.int (i / j))) : OD W (rI CDivW fun i j => .int (i / j)) (.int i) (.int j) P := od_I hc (fun _ => .int _) p
theorem od_pow {i j : Int} (hc : CPow i j) (p : P (.int (i ^ j.toNat))) : OD W (rI CPow fun i j => .int (i ^ j.toNat)) (.int i) (.int j) P := od_I hc (fun _ => .int _) p
/-! == and in -/
theorem od_eq {x y : Dt} {p q : PyData} (hx : toPy x = some p) (hy : toPy y = some q) (sp : SeqAt.shaped p = true) (sq : SeqAt.shaped q = true) (k0 : P (.bl (PyData.eqv p q))) : OD W (rEqA W.K) x y P := od_of (fun G H v w Q g hv hw k =>
  .inl ⟨p, q, (hv.dr g).dp hx, (hw.dr g).dp hy, sp, sq, k _ (.bl _)⟩) k0
theorem od_ne {x y : Dt} {p q : PyData} (hx : toPy x = some p) (hy : toPy y = some q) (sp : SeqAt.shaped p = true) (sq : SeqAt.shaped q = true) (k0 : P (.bl (!PyData.eqv p q))) : OD W (rNeA W.K) x y P := od_of (fun G H v w Q g hv hw k =>
  .inl ⟨p, q, (hv.dr g).dp hx, (hw.dr g).dp hy, sp, sq, k _ (.bl _)⟩) k0
theorem od_eqS {x y : Str} (k0 : P (.bl (decide (x = y)))) : OD W (rEqA W.K) (.str x) (.str y) P := od_of (fun G H v w Q g hv hw k => by
  cases hv.str; cases hw.str
  refine .inr ⟨rfl, ?_⟩
  have e : decide (V.str x = V.str y) = decide (x = y) := by
    by_cases h : x = y
    · rw [decide_eq_true h, decide_eq_true (congrArg V.str h)]
    · rw [decide_eq_false h, decide_eq_false (fun z => h (V.str.inj z))]
  rw [e]
  exact k _ (.bl _)) k0
theorem od_neS {x y : Str} (k0 : P (.bl (!decide (x = y)))) : OD W (rNeA W.K) (.str x) (.str y) P := od_of (fun G H v w Q g hv hw k => by
  cases hv.str; cases hw.str
  refine .inr ⟨rfl, ?_⟩
  have e : decide (V.str x = V.str y) = decide (x = y) := by
    by_cases h : x = y
    · rw [decide_eq_true h, decide_eq_true (congrArg V.str h)]
    · rw [decide_eq_false h, decide_eq_false (fun z => h (V.str.inj z))]
  rw [e]
  exact k _ (.bl _)) k0
theorem od_eqI {x y : Int} (k0 : P (.bl (decide (x = y)))) : OD W (rEqA W.K) (.int x) (.int y) P := od_of (fun G H v w Q g hv hw k => by
  cases hv.int; cases hw.int
  refine .inr ⟨rfl, ?_⟩
  have e : decide (V.int x = V.int y) = decide (x = y) := by
    by_cases h : x = y
    · rw [decide_eq_true h, decide_eq_true (congrArg V.int h)]
    · rw [decide_eq_false h, decide_eq_false (fun z => h (V.int.inj z))]
  rw [e]
  exact k _ (.bl _)) k0
theorem od_neI {x y : Int} (k0 : P (.bl (!decide (x = y)))) : OD W (rNeA W.K) (.int x) (.int y) P := od_of (fun G H v w Q g hv hw k => by
  cases hv.int; cases hw.int
  refine .inr ⟨rfl, ?_⟩
  have e : decide (V.int x = V.int y) = decide (x = y) := by
    by_cases h : x = y
    · rw [decide_eq_true h, decide_eq_true (congrArg V.int h)]
    · rw [decide_eq_false h, decide_eq_false (fun z => h (V.int.inj z))]
  rw [e]
  exact k _ (.bl _)) k0
theorem od_inL {x : Dt} {ys : List Dt} {p : PyData} {qs : List PyData} (hx : toPy x = some p) (hy : toPys ys = some qs) (sp : SeqAt.shaped p = true) (sq : SeqAt.shaped (.list qs) = true) (k0 : P (.bl (qs.any fun z => PyData.eqv z p))) : OD W (rInA W.K) x (.lst ys) P := od_of (fun G H v w Q g hv hw k =>
  .inl (.inl ⟨p, qs, (hv.dr g).dp hx, (hw.dr g).dp (by simp only [toPy, hy, Option.map_some]), sp, sq, k _ (.bl _)⟩)) k0
theorem od_notInL {x : Dt} {ys : List Dt} {p : PyData} {qs : List PyData} (hx : toPy x = some p) (hy : toPys ys = some qs) (sp : SeqAt.shaped p = true) (sq : SeqAt.shaped (.list qs) = true) (k0 : P (.bl (!qs.any fun z => PyData.eqv z p))) : OD W (rNotInA W.K) x (.lst ys) P := od_of (fun G H v w Q g hv hw k =>
  .inl ⟨p, qs, (hv.dr g).dp hx, (hw.dr g).dp (by simp only [toPy, hy, Option.map_some]), sp, sq, k _ (.bl _)⟩) k0
theorem od_inSign {c : Nat} {z : Str} (k0 : P (.bl (decide (c ∈ z.cps.toList)))) : OD W (rInA W.K) (.str ⟨#[c]⟩) (.str z) P := od_of (fun G H v w Q g hv hw k => by
  cases hv.str; cases hw.str; exact .inr (.inl ⟨c, z, rfl, rfl, k _ (.bl _)⟩)) k0
/-! items -/
theorem od_ixL {xs : List Dt} {j : Nat} {d : Dt} (h : xs[j]? = some d) (p : P d) : OD W (rIx W.K) (.lst xs) (.int (j : Int)) P := od_of (fun G H v w Q g hv hw k => by
  obtain ⟨a, us, rfl, h1, r1⟩ := hv.lst g
  cases hw.int
  obtain ⟨u, hu, r⟩ := r1.getD h
  exact .inl ⟨a, us, (j : Int), u, rfl, rfl, SqL.of h1, atI_nat hu, k _ r⟩) p
theorem od_ixT {xs : List Dt} {j : Nat} {d : Dt} (h : xs[j]? = some d) (p : P d) : OD W (rIx W.K) (.tup xs) (.int (j : Int)) P := od_of (fun G H v w Q g hv hw k => by
  obtain ⟨a, us, rfl, h1, r1⟩ := hv.tup
  cases hw.int
  obtain ⟨u, hu, r⟩ := r1.getD h
  exact .inr (.inl ⟨a, us, (j : Int), u, rfl, rfl, sqT_mono g.sub h1, atI_nat hu, k _ r⟩)) p
theorem od_ixS {z : Str} {j c : Nat} (hz : z.length ≤ 100000) (h : z.cps.toList[j]? = some c) (p : P (.str ⟨#[c]⟩)) : OD W (rIx W.K) (.str z) (.int (j : Int)) P := od_of (fun G H v w Q g hv hw k => by
  cases hv.str
  cases hw.int
  exact .inr (.inr ⟨z, (j : Int), c, rfl, rfl, Nat.le_trans hz (by decide), atI_nat h, k _ (.str _)⟩)) p
theorem od_ixScr {ns : List Int} {j : Nat} {n : Int} (h : ns[j]? = some n) (p : P (.int n)) : OD W (rIx W.K) (.scr ns) (.int (j : Int)) P := od_of (fun G H v w Q g hv hw k => by
  cases hw.int
  rcases hv with hv | ⟨a, xs, ds, h1, h2, _⟩
  · cases hv with
    | scr h1 => exact .inl ⟨_, _, (j : Int), .int n, rfl, rfl, g.sub.seq h1, atI_nat (by rw [List.getElem?_map, h]; rfl), k _ (.int _)⟩
  · cases h2) p
end
section
variable {Γ : Cn} {δ : List Sl} {te ta tb tc : TE} {P : Dt → Prop}
/-! slices -/
def OdP (Γ : Cn) (t : TO) (δ : List Sl) (P : Option Int → Prop) : Prop := ∀ G H σ (Q : Option Int → Hp → Prop), At Γ δ G H σ → (∀ o G' H', Fr Γ.W G H G' H' → Good Γ.W G' H' → P o → Q o H') → t σ H Q
theorem op_none {P : Option Int → Prop} (p : P none) : OdP Γ tNoPart δ P := fun G H σ Q at_ k => k none G H (Fr.refl _ _ _) at_.gd p
theorem op_some {P : Option Int → Prop} (h : ED Γ te δ fun d => ∃ i, d = .int i ∧ P (some i)) : OdP Γ (tPart te) δ P := fun G H σ Q at_ k =>
  h G H σ _ at_ fun v d G1 H1 f1 g1 r ⟨i, e, p⟩ => by subst e; cases r; exact ⟨i, rfl, k (some i) G1 H1 f1 g1 p⟩
theorem drall_ints {K : PySem.W.Frag} {G : Hp} : ∀ ns : List Int, DrAll K G (ns.map V.int) (ns.map Dt.int)
  | [] => .nil
  | n :: ns => .cons (.int n) (drall_ints ns)
def cutD {α : Type} (xs : List α) (lo hi : Option Int) : List α := (xs.drop (HT.sIx xs.length 0 lo)).take (HT.sIx xs.length xs.length hi - HT.sIx xs.length 0 lo)
theorem DrAll.cut {K : PySem.W.Frag} {G : Hp} {xs : List V} {ds : List Dt} (h : DrAll K G xs ds) (lo hi : Option Int) : DrAll K G (cutV xs lo hi) (cutD ds lo hi) := by
  unfold cutV cutD
  rw [h.length]
  exact (h.drop _).take _
theorem ed_sl {tl th : TO} (h : RD Γ te δ fun x => OdP Γ tl δ fun lo => OdP Γ th δ fun hi => (∃ ds, x = .lst ds ∧ P (.lst (cutD ds lo hi))) ∨ (∃ z, x = .str z ∧ z.length ≤ 100000 ∧ P (.str (cutS z lo hi))) ∨ (∃ ds, x = .tup ds ∧ P (.tup (cutD ds lo hi))) ∨ ∃ ns, x = .scr ns ∧ P (.lst ((cutD ns lo hi).map Dt.int))) :
    ED Γ (tSl (rSlAny Γ.W.K) te tl th) δ P := fun G H σ Q at_ k =>
  h G H σ _ at_ fun v x G1 H1 f1 g1 d1 p1 => p1 G1 H1 σ _ (at_.step f1 g1) fun lo G2 H2 f2 g2 p2 => p2 G2 H2 σ _ ((at_.step f1 g1).step f2 g2) fun hi G3 H3 f3 g3 p3 => by
    have f := (f1.trans f2 g2).trans f3 g3
    have d3 := (d1.step f2).step f3
    rcases p3 with ⟨ds, rfl, p⟩ | ⟨z, rfl, hz, p⟩ | ⟨ds, rfl, p⟩ | ⟨ns, rfl, p⟩
    · obtain ⟨a, us, rfl, h1, r1⟩ := d3.lst g3
      refine .inl (.inl ⟨a, us, rfl, SqL.of h1, fun q hq => ?_⟩)
      exact k _ _ (upd G3 q (.lst (cutV us lo hi))) _ (f.trans (Fr.new g3 hq) (g3.new hq)) (g3.new hq) (.lst upd_same ((r1.cut lo hi).mono (same_new (g3.gn hq)))) p
    · cases d3.str
      exact .inl (.inr ⟨z, rfl, Nat.le_trans hz (by decide), k _ _ G3 H3 f g3 (.str _) p⟩)
    · obtain ⟨a, us, rfl, h1, r1⟩ := d3.tup
      refine .inr ⟨a, us, rfl, sqT_mono g3.sub h1, fun e => ?_, fun e q hq => ?_⟩
      · have z : cutD ds lo hi = ds := by
          unfold cutD
          rw [← r1.length, e.1, e.2, Nat.sub_zero, List.drop_zero, r1.length, List.take_length]
        rw [z] at p
        exact k _ _ G3 H3 f g3 (.tup h1 r1) p
      · exact k _ _ (upd G3 q (.tup (cutV us lo hi))) _ (f.trans (Fr.new g3 hq) (g3.new hq)) (g3.new hq) (.tup (.inl (.inl upd_same)) ((r1.cut lo hi).mono (same_new (g3.gn hq)))) p
    · rcases d3 with d3 | ⟨a, xs, ds, h1, h2, _⟩
      · cases d3 with
        | @scr a _ h1 =>
          refine .inl (.inl ⟨a, ns.map V.int, rfl, g3.sub.seq h1, fun q hq => ?_⟩)
          have ec : cutV (ns.map V.int) lo hi = (cutD ns lo hi).map V.int := by
            unfold cutV cutD
            rw [List.length_map, List.map_take, List.map_drop]
          rw [ec]
          exact k _ _ (upd G3 q (.lst ((cutD ns lo hi).map V.int))) _ (f.trans (Fr.new g3 hq) (g3.new hq)) (g3.new hq) (.lst upd_same (drall_ints _)) p
      · cases h2
theorem nl_sl {tl th : TO} {P : List Dt → Prop} (h : RD Γ te δ fun x => OdP Γ tl δ fun lo => OdP Γ th δ fun hi => ∃ ds, x = .lst ds ∧ P (cutD ds lo hi)) :
    NL Γ (tSl (rSlAny Γ.W.K) te tl th) δ P := fun G H σ Q at_ k =>
  h G H σ _ at_ fun v x G1 H1 f1 g1 d1 p1 => p1 G1 H1 σ _ (at_.step f1 g1) fun lo G2 H2 f2 g2 p2 => p2 G2 H2 σ _ ((at_.step f1 g1).step f2 g2) fun hi G3 H3 f3 g3 p3 => by
    have f := (f1.trans f2 g2).trans f3 g3
    have d3 := (d1.step f2).step f3
    obtain ⟨ds, rfl, p⟩ := p3
    obtain ⟨a, us, rfl, h1, r1⟩ := d3.lst g3
    refine .inl (.inl ⟨a, us, rfl, SqL.of h1, fun q hq => ?_⟩)
    exact k q _ _ G3 _ (f.trans (Fr.newM g3 hq) (g3.setM (g3.gn hq) (g3.nm hq))) (g3.setM (g3.gn hq) (g3.nm hq)) (fr_back f g3 hq) upd_same (g3.gn hq) (r1.cut lo hi) p
/-! calls of built-ins -/
variable {W : Wo}
theorem cd_of {rc : List V → Hp → VK → Prop} {ds : List Dt} {z : Dt} (h : ∀ G H vs (Q : VK), Good W G H → DvAll W G H vs ds → (∀ u, Dr W.K G u z → Q u H) → rc vs H Q) (p : P z) : CD W rc ds P := fun G H vs Q g hv k =>
  h G H vs Q g hv fun u r => k u z G H (Fr.refl _ _ _) g r p
theorem dv1 {G H : Hp} {vs : List V} {x : Dt} (h : DvAll W G H vs [x]) : ∃ v, vs = [v] ∧ Dv W G H v x := by
  cases h with
  | cons a b => cases b; exact ⟨_, rfl, a⟩
theorem dv2 {G H : Hp} {vs : List V} {x y : Dt} (h : DvAll W G H vs [x, y]) : ∃ v w, vs = [v, w] ∧ Dv W G H v x ∧ Dv W G H w y := by
  cases h with
  | cons a b =>
    obtain ⟨w, rfl, r⟩ := dv1 b
    exact ⟨_, w, rfl, a, r⟩
theorem drall_bl {K : PySem.W.Frag} {G : Hp} : ∀ {xs : List V} {bs : List Bool}, DrAll K G xs (bs.map Dt.bl) → xs = bs.map V.bl
  | _, [], h => by cases h; rfl
  | _, b :: bs, h => by
    cases h with
    | cons r t => cases r; rw [drall_bl t]; rfl
theorem drall_int {K : PySem.W.Frag} {G : Hp} : ∀ {xs : List V} {bs : List Int}, DrAll K G xs (bs.map Dt.int) → xs = bs.map V.int
  | _, [], h => by cases h; rfl
  | _, b :: bs, h => by
    cases h with
    | cons r t => cases r; rw [drall_int t]; rfl
theorem drall_str {K : PySem.W.Frag} {G : Hp} : ∀ {xs : List V} {bs : List Str}, DrAll K G xs (bs.map Dt.str) → xs = bs.map V.str
  | _, [], h => by cases h; rfl
  | _, b :: bs, h => by
    cases h with
    | cons r t => cases r; rw [drall_str t]; rfl
def rLen (K : PySem.W.Frag) : List V → Hp → VK → Prop := fun xs H Q => ∃ x n, xs = [x] ∧ LenV K x H n ∧ Q (.int n) H
theorem callLen {X : Cx} : CallR X (.builtin "len") (rLen X.K) := call_len
theorem cd_lenS {z : Str} (hz : z.length ≤ 100000) (p : P (.int (z.length : Nat))) : CD W (rLen W.K) [.str z] P := cd_of (fun G H vs Q g hv k => by
  obtain ⟨v, rfl, r⟩ := dv1 hv
  cases r.str
  exact ⟨_, _, rfl, ⟨Nat.le_trans hz (by decide), rfl⟩, k _ (.int _)⟩) p
theorem cd_lenL {xs : List Dt} (p : P (.int (xs.length : Nat))) : CD W (rLen W.K) [.lst xs] P := cd_of (fun G H vs Q g hv k => by
  obtain ⟨v, rfl, r⟩ := dv1 hv
  obtain ⟨a, us, rfl, h1, r1⟩ := r.lst g
  refine ⟨_, us.length, rfl, .inl ⟨us, SqL.of h1, rfl⟩, ?_⟩
  rw [r1.length]
  exact k _ (.int _)) p
theorem cd_lenT {xs : List Dt} (p : P (.int (xs.length : Nat))) : CD W (rLen W.K) [.tup xs] P := cd_of (fun G H vs Q g hv k => by
  obtain ⟨v, rfl, r⟩ := dv1 hv
  obtain ⟨a, us, rfl, h1, r1⟩ := r.tup
  refine ⟨_, us.length, rfl, .inr ⟨us, sqT_mono g.sub h1, rfl⟩, ?_⟩
  rw [r1.length]
  exact k _ (.int _)) p
theorem cd_lenScr {ns : List Int} (p : P (.int (ns.length : Nat))) : CD W (rLen W.K) [.scr ns] P := cd_of (fun G H vs Q g hv k => by
  obtain ⟨v, rfl, r⟩ := dv1 hv
  rcases r with r | ⟨a, xs, ds, h1, h2, _⟩
  · cases r with
    | scr h1 => exact ⟨_, ns.length, rfl, .inl ⟨_, g.sub.seq h1, by rw [List.length_map]⟩, k _ (.int _)⟩
  · cases h2) p
def rInt1 : List V → Hp → VK → Prop := fun xs H Q => (∃ i, xs = [.int i] ∧ Q (.int i) H) ∨ ∃ k, xs = [.bl k] ∧ Q (.int (if k then 1 else 0)) H
theorem callInt {X : Cx} : CallR X (.type "int") rInt1 := call_int1
theorem cd_int {i : Int} (p : P (.int i)) : CD W rInt1 [.int i] P := cd_of (fun G H vs Q g hv k => by
  obtain ⟨v, rfl, r⟩ := dv1 hv
  cases r.int
  exact .inl ⟨i, rfl, k _ (.int _)⟩) p
theorem cd_intB {b : Bool} (p : P (.int (if b then 1 else 0))) : CD W rInt1 [.bl b] P := cd_of (fun G H vs Q g hv k => by
  obtain ⟨v, rfl, r⟩ := dv1 hv
  cases r.bl
  exact .inr ⟨b, rfl, k _ (.int _)⟩) p
def rAbs : List V → Hp → VK → Prop := fun xs H Q => ∃ i, xs = [.int i] ∧ Q (.int (if i < 0 then -i else i)) H
theorem callAbs {X : Cx} : CallR X (.builtin "abs") rAbs := call_abs
theorem cd_abs {i : Int} (p : P (.int (if i < 0 then -i else i))) : CD W rAbs [.int i] P := cd_of (fun G H vs Q g hv k => by
  obtain ⟨v, rfl, r⟩ := dv1 hv
  cases r.int
  exact ⟨i, rfl, k _ (.int _)⟩) p
def rMax2 : List V → Hp → VK → Prop := fun xs H Q => ∃ i j, xs = [.int i, .int j] ∧ Q (.int (if j > i then j else i)) H
def rMin2 : List V → Hp → VK → Prop := fun xs H Q => ∃ i j, xs = [.int i, .int j] ∧ Q (.int (if j < i then j else i)) H
theorem callMax2 {X : Cx} (hc : X.calm = true) : CallR X (.builtin "max") rMax2 := call_max2 hc
theorem callMin2 {X : Cx} (hc : X.calm = true) : CallR X (.builtin "min") rMin2 := call_min2 hc
theorem cd_max2 {i j : Int} (p : P (.int (if j > i then j else i))) : CD W rMax2 [.int i, .int j] P := cd_of (fun G H vs Q g hv k => by
  obtain ⟨v, w, rfl, r, r2⟩ := dv2 hv
  cases r.int; cases r2.int
  exact ⟨i, j, rfl, k _ (.int _)⟩) p
theorem cd_min2 {i j : Int} (p : P (.int (if j < i then j else i))) : CD W rMin2 [.int i, .int j] P := cd_of (fun G H vs Q g hv k => by
  obtain ⟨v, w, rfl, r, r2⟩ := dv2 hv
  cases r.int; cases r2.int
  exact ⟨i, j, rfl, k _ (.int _)⟩) p
theorem cd_all {bs : List Bool} (p : P (.bl (bs.all id))) : CD W (rAll W.K) [.lst (bs.map Dt.bl)] P := cd_of (fun G H vs Q g hv k => by
  obtain ⟨v, rfl, r⟩ := dv1 hv
  obtain ⟨a, us, rfl, h1, r1⟩ := r.lst g
  have := drall_bl r1
  subst this
  exact ⟨a, bs, rfl, SqL.of h1, k _ (.bl _)⟩) p
theorem cd_any {bs : List Bool} (p : P (.bl (bs.any id))) : CD W (rAny W.K) [.lst (bs.map Dt.bl)] P := cd_of (fun G H vs Q g hv k => by
  obtain ⟨v, rfl, r⟩ := dv1 hv
  obtain ⟨a, us, rfl, h1, r1⟩ := r.lst g
  have := drall_bl r1
  subst this
  exact ⟨a, bs, rfl, SqL.of h1, k _ (.bl _)⟩) p
theorem cd_repr {x : Dt} {d : PyData} (hx : toPy x = some d) (h1 : d.showable = true) (h2 : d.hasDict = false) (h3 : d.depth ≤ 60) (h4 : d.shown.length ≤ 10000000) (p : P (.str d.shown)) : CD W (Pg.rRepr W.K) [x] P := cd_of (fun G H vs Q g hv k => by
  obtain ⟨v, rfl, r⟩ := dv1 hv
  exact ⟨v, d, rfl, (r.dr g).dp hx, h1, h2, h3, Nat.le_trans h4 (by decide), k _ (.str _)⟩) p
/-! isinstance -/
def tyD : Dt → Option String
  | .non => some "NoneType"
  | .bl _ => some "bool"
  | .int _ => some "int"
  | .str _ => some "str"
  | .tup _ => some "tuple"
  | .lst _ => some "list"
  | .dct _ => some "dict"
  | _ => none
theorem ty_of {G H : Hp} {v : V} {d : Dt} {T : String} (g : Good W G H) (h : Dv W G H v d) (e : tyD d = some T) : TyX W.K H v (.type T) := by
  have h := h.dr g
  cases h with
  | non => cases e; exact .base .non
  | bl b => cases e; exact .base (.bl b)
  | int i => cases e; exact .base (.int i)
  | str x => cases e; exact .base (.str x)
  | tup h1 h2 =>
    cases e
    rcases h1 with (h1 | ⟨o, h1⟩) | ⟨o, its, n, h1, h2, h3⟩
    · exact .base (.tup h1)
    · exact .fTuple h1
    · exact .kTuple h1 h2
  | lst h1 h2 => cases e; exact .base (.lst h1)
  | scr h1 => cases e
  | dct h1 => cases e; exact .base (.dK h1)
  | raw v => cases e
  | obj h1 h2 h3 => cases e
theorem cd_isi {x : Dt} {t T : String} {b : Bool} (ht : tyD x = some t) (hk : kitB t T = some b) (p : P (.bl b)) : CD W (rIsi W.K) [x, .raw (.ty T)] P := cd_of (fun G H vs Q g hv k => by
  obtain ⟨v, w, rfl, r, r2⟩ := dv2 hv
  cases r2.raw
  exact ⟨v, .ty T, .type t, .type T, b, rfl, .ty T, ty_of g r ht, kit_ty hk, k _ (.bl _)⟩) p
/-! texts -/
theorem ed_join (h : ED Γ ta δ fun x => ∃ a, x = .str a ∧ RD Γ tb δ fun y => ∃ ys : List Str, y = .lst (ys.map Dt.str) ∧ (ys.map (·.length)).sum + ys.length * a.length ≤ 1000000 ∧ P (.str (Txt.join a ys))) :
    ED Γ (tM1 (fun x xs H Q => ∃ a p, ∃ ys : List Str, x = .str a ∧ xs = [.ref p] ∧ (SqL Γ.W.K H p (ys.map V.str) ∨ SqT Γ.W.K H p (ys.map V.str)) ∧ (ys.map (·.length)).sum + ys.length * a.length ≤ 16777216 ∧ Q (.str (Txt.join a ys)) H) ta tb) δ P := fun G H σ Q at_ k =>
  h G H σ _ at_ fun v x G1 H1 f1 g1 d1 ⟨a, e, p1⟩ => by
    subst e
    cases d1
    refine ⟨⟨a, rfl⟩, p1 G1 H1 σ _ (at_.step f1 g1) fun w y G2 H2 f2 g2 d2 ⟨ys, e, hz, p⟩ => ?_⟩
    subst e
    obtain ⟨l, us, rfl, h1, r1⟩ := d2.lst g2
    have := drall_str r1
    subst this
    exact ⟨a, l, ys, rfl, rfl, .inl (SqL.of h1), Nat.le_trans hz (by decide), k _ _ G2 H2 (f1.trans f2 g2) g2 (.str _) p⟩
end
end Pd

set_option Elab.async false
set_option linter.all false
set_option maxRecDepth 100000
set_option maxHeartbeats 2000000
namespace Pd
open PySem PySem.Spec PyProof.Rows L2
theorem _root_.L2.Room.units65 {k : Nat} {A : Around} (r : Room k A) : A.units + 65 < cLine := by
  have := r.un
  omega
/-- a def of the module, by its name, with its promise -/
structure Cl (P : Program) (w : World) (K : PySem.W.Frag) (mg : Str → Option Value) (base : Heap) (k : Nat) (x : Str) (sp : Sp) : Prop where
  ex : ∃ (f : Addr) (fd : FuncData) (ps : List Str), FnOk P w K mg base L2.CX0 k f fd ps sp ∧ mg x = some (.ref f) ∧ PySem.W.keepIn K (.ref f) = true ∧ Binds K fd ps []
structure ClG (P : Program) (w : World) (K : PySem.W.Frag) (mg : Str → Option Value) (base : Heap) (k : Nat) (x : Str) (sp : Sp) : Prop where
  ex : ∃ (f : Addr) (fd : FuncData) (ps : List Str), Pg.FnG P w K mg base k f fd ps sp ∧ mg x = some (.ref f) ∧ PySem.W.keepIn K (.ref f) = true ∧ Binds K fd ps []
/-- .. called with all its parameters by their names, in their order -/
structure ClK (P : Program) (w : World) (K : PySem.W.Frag) (mg : Str → Option Value) (base : Heap) (k : Nat) (x : Str) (ps : List Str) (sp : Sp) : Prop where
  ex : ∃ (f : Addr) (fd : FuncData), FnOk P w K mg base L2.CX0 k f fd ps sp ∧ mg x = some (.ref f) ∧ PySem.W.keepIn K (.ref f) = true ∧ ∀ (s : Shared) (us : List Value), us.length = ps.length → BindsTo s fd ⟨[], ps.zip us⟩ (ps.zip us)
section
variable {X : Cx} {j k : Nat} {x : Str} {sp : Sp} {p pos : Pos} {e : Expr} {es : List Expr} {t tk : TA} {kws : List Keyword} {ps : List Str}
theorem pe_cl (c : Cl X.prog X.w X.K X.mg X.base k x sp) (hr : Room j X.A) (hk : k ≤ j) (hg : Gl X x) (ha : PA X (e :: es) t) (hdb : (x == ("__debug__" : Str)) = false := by decide)
    (he : starEach (e :: es) X.env = (false, eval e X.env) :: starEach es X.env := by rfl) (hpl : (backTo pos (starEach es X.env)).any (·.1) = false := by rfl) : PE X (.Call (.Name x p) (e :: es) [] pos) (tCall sp [] L2.E0 t) := by
  obtain ⟨f, fd, ps, F, h1, h2, h3⟩ := c.ex
  exact pe_call F (hr.mono hk) hg h1 h2 h3 .nil L2.pass0 ha hdb he hpl
theorem pe_clG (c : ClG X.prog X.w X.K X.mg X.base k x sp) (hgd : X.A.guards = some []) (hr : Room j X.A) (hk : k ≤ j) (hg : Gl X x) (ha : PA X (e :: es) t) (hdb : (x == ("__debug__" : Str)) = false := by decide)
    (he : starEach (e :: es) X.env = (false, eval e X.env) :: starEach es X.env := by rfl) (hpl : (backTo pos (starEach es X.env)).any (·.1) = false := by rfl) : PE X (.Call (.Name x p) (e :: es) [] pos) (tCall sp [] L2.E0 t) := by
  obtain ⟨f, fd, ps, F, h1, h2, h3⟩ := c.ex
  exact Pg.peG_call F hgd (hr.mono hk) hg h1 h2 h3 ha hdb he hpl
theorem pe_cl0 (c : Cl X.prog X.w X.K X.mg X.base k x sp) (hr : Room j X.A) (hk : k ≤ j) (hg : Gl X x) (hdb : (x == ("__debug__" : Str)) = false := by decide) : PE X (.Call (.Name x p) [] [] pos) (tCall sp [] L2.E0 tNil) := by
  obtain ⟨f, fd, ps, F, h1, h2, h3⟩ := c.ex
  exact pe_call0 F (hr.mono hk) hg h1 h2 h3 .nil L2.pass0 hdb
theorem pe_clK (c : ClK X.prog X.w X.K X.mg X.base k x ps sp) (hr : Room j X.A) (hk : k ≤ j) (hg : Gl X x) (hkw : PK X kws tk) (hall : (backToKw pos (keywordEach kws X.env)).all (·.1.isSome) = true := by rfl)
    (hks : (backToKw pos (keywordEach kws X.env)).filterMap (·.1) = ps := by rfl) (hdb : (x == ("__debug__" : Str)) = false := by decide)
    (hpl : ((backTo pos (starEach [] X.env)).any (·.1) || (backToKw pos (keywordEach kws X.env)).any (·.1.isNone)) = false := by rfl) : PE X (.Call (.Name x p) [] kws pos) (tCall sp [] L2.E0 tk) := by
  obtain ⟨f, fd, F, h1, h2, h3⟩ := c.ex
  constructor
  intro pins s σ H Q I h
  refine wpAny_Call_Name_kw (ld_glob I hg h1 ?_ hdb)
  refine PySem.W.callWith_KW0 (h₀ := X.base) I.ok.mod.kin h2 hall ?_ hpl
  refine thn (hkw.run pos pins s σ H _ I h) ?_
  intro ws s2 hh
  obtain ⟨zs, H2, I2, rz, q2⟩ := hh
  refine ⟨I2.kIn, ?_⟩
  rw [hks]
  have q' : sp zs H2 Q L2.E0 := by
    have z : sp (zs ++ []) H2 Q L2.E0 := q2
    rw [List.append_nil] at z
    exact z
  have hl : ws.length = ps.length := by rw [← rz.length]; exact F.len _ _ _ _ q'
  refine wpAny_call (codeAny_mono (F.run X.A X.stack s2 H2 ⟨[], ps.zip ws⟩ ws zs Q L2.E0 (hr.mono hk) I2.env0 (h3 s2 ws hl) rz q') ?_)
  intro rr s' hq
  match rr, hq with
  | .error _, hq => exact False.elim hq
  | .ok (.ret _), hq => exact I2.after hq
  | .ok .next, hq => exact False.elim hq
  | .ok .brk, hq => exact False.elim hq
  | .ok .cont, hq => exact False.elim hq
/-- a constant of the module -/
theorem pe_gc {v : V} (hg : Gl X x) (h : ∃ u, X.mg x = some u ∧ RelV v u) (hdb : (x == ("__debug__" : Str)) = false := by decide) : PE X (.Name x pos) (tC v) := by
  obtain ⟨u, h1, h2⟩ := h
  exact pe_glob hg h1 h2 hdb
end
section
variable {Γ : Cn} {δ : List Sl} {te ta tb tc : TE} {P : Dt → Prop} {W : Wo}
theorem ed_dnew (p : P (.dct [])) : ED Γ tDNewK δ P := fun G H σ Q at_ k q hq => k _ _ (upd G q (.dK [])) _ (Fr.new at_.gd hq) (at_.gd.new hq) (.dct upd_same) p
theorem nl_addL {P : List Dt → Prop} (h : RD Γ ta δ fun x => RD Γ tb δ fun y => ∃ xs ys, x = .lst xs ∧ y = .lst ys ∧ xs.length + ys.length ≤ 100000 ∧ P (xs ++ ys)) : NL Γ (tOp (rAddA Γ.W.K) ta tb) δ P := fun G H σ Q at_ k =>
  h G H σ _ at_ fun v x G1 H1 f1 g1 d1 p1 => p1 G1 H1 σ _ (at_.step f1 g1) fun w y G2 H2 f2 g2 d2 ⟨xs, ys, e1, e2, hl, p⟩ => by
    subst e1 e2
    have f := f1.trans f2 g2
    obtain ⟨a, us, rfl, h1, r1⟩ := (d1.step f2).lst g2
    obtain ⟨b, ws, rfl, h2, r2⟩ := d2.lst g2
    refine .inr (.inl ⟨a, b, us, ws, rfl, rfl, h1, h2, by rw [r1.length, r2.length]; exact Nat.le_trans hl (by decide), fun q hq => ?_⟩)
    exact k q _ _ G2 _ (f.trans (Fr.newM g2 hq) (g2.setM (g2.gn hq) (g2.nm hq))) (g2.setM (g2.gn hq) (g2.nm hq)) (fr_back f g2 hq) upd_same (g2.gn hq) (r1.append r2) p
/-- {k: n}, k a text -/
theorem ed_disp1 {n : Int} (h : ED Γ ta δ fun d => ∃ x, d = .str x ∧ P (.dct [(.inr x, .int n)])) : ED Γ (tDisp [(ta, tC (.int n))]) δ P := fun G H σ Q at_ k q hq => by
  have gd := at_.gd
  have f0 : Fr Γ.W G H G (upd H q (.dK [])) := Fr.newM gd hq
  have g0 : Good Γ.W G (upd H q (.dK [])) := gd.setM (gd.gn hq) (gd.nm hq)
  refine h G _ σ _ (at_.step f0 g0) fun v d G1 H1 f1 g1 r ⟨x, e, p⟩ => ?_
  subst e
  cases r
  have w := f1.o q _ upd_same (gd.gn hq)
  refine ⟨w.2 (gd.nm hq), [(.inr x, .int n)], rfl, (by show 1 ≤ 15; decide), ?_⟩
  have f01 := f0.trans f1 g1
  have m : mergeK [] [((.inr x : Key), V.int n)] = [(.inr x, V.int n)] := rfl
  rw [m]
  refine k _ _ (upd G1 q (.dK [(.inr x, .int n)])) _ ⟨f01.g.trans (same_new w.1), fun b u e gb => ?_⟩ ⟨same_upd2 g1.sub w.1, fun b e => ?_⟩ (.dct upd_same) p
  · have hb : b ≠ q := ne_of_none e hq
    rw [upd_ne hb, upd_ne hb]
    exact f01.o b u e gb
  · obtain ⟨k1, u, k2, k3⟩ := g1.st b e
    have hb : b ≠ q := fun z => gd.nm hq (z ▸ e)
    rw [upd_ne hb, upd_ne hb]
    exact ⟨k1, u, k2, k3⟩
theorem sd_par3 {i j l : Nat} {D : De} (h : ED Γ ta δ fun s => ED Γ tb δ fun t => ED Γ tc δ fun u => D.nx (((δ.set i (.dat s)).set j (.dat t)).set l (.dat u))) : SD Γ (tPar3 i j l (tCons ta (tCons tb (tCons tc tNil)))) δ D := fun G H σ E at_ hn hr hb hc =>
  h G H σ _ at_ fun v s G1 H1 f1 g1 r1 p1 => p1 G1 H1 σ _ (at_.step f1 g1) fun w t G2 H2 f2 g2 r2 p2 => p2 G2 H2 σ _ ((at_.step f1 g1).step f2 g2) fun x u G3 H3 f3 g3 r3 p3 =>
    ⟨v, w, x, rfl, hn _ G3 H3 _ ((f1.g.trans f2.g).trans f3.g) ⟨(((at_.step f1 g1).step f2 g2).step f3 g3).fr, g3, (((((at_.step f1 g1).step f2 g2).step f3 g3).env.set ((r1.mono f2.g).mono f3.g)).set (r2.mono f3.g)).set r3⟩ p3⟩
theorem sd_parD {i j : Nat} {D : De} (h : ED Γ ta δ fun s => ED Γ tb δ fun t => D.nx ((δ.set i (.dat s)).set j (.dat t))) : SD Γ (tPar i j (tCons ta (tCons tb tNil))) δ D := fun G H σ E at_ hn hr hb hc =>
  h G H σ _ at_ fun v s G1 H1 f1 g1 r1 p1 => p1 G1 H1 σ _ (at_.step f1 g1) fun w t G2 H2 f2 g2 r2 p2 =>
    ⟨v, w, rfl, hn _ G2 H2 _ (f1.g.trans f2.g) ⟨((at_.step f1 g1).step f2 g2).fr, g2, (((at_.step f1 g1).step f2 g2).env.set (r1.mono f2.g)).set r2⟩ p2⟩
/-- targets of several names -/
theorem sd_asgG {g : TG} {js : List Nat} {D : De} (h : ED Γ te δ fun d => GD Γ g js δ d D.nx) : SD Γ (tAsg te g) δ D := fun G H σ E at_ hn hr hb hc =>
  h G H σ _ at_ fun v d G1 H1 f1 g1 r p => p G1 H1 σ v _ (at_.step f1 g1) r fun δ' σ' a _ q => hn δ' G1 H1 σ' f1.g a q
/-- xs[::-1] -/
theorem ed_rev (h : RD Γ te δ fun x => ∃ ds, x = .lst ds ∧ P (.lst ds.reverse)) : ED Γ (tRevL Γ.W.K te) δ P := fun G H σ Q at_ k =>
  h G H σ _ at_ fun v x G1 H1 f1 g1 d1 ⟨ds, e, p⟩ => by
    subst e
    obtain ⟨a, us, rfl, h1, r1⟩ := d1.lst g1
    refine ⟨a, us, rfl, SqL.of h1, fun q hq => ?_⟩
    exact k _ _ (upd G1 q (.lst us.reverse)) _ (f1.trans (Fr.new g1 hq) (g1.new hq)) (g1.new hq) (.lst upd_same (r1.reverse.mono (same_new (g1.gn hq)))) p
end
/-! ### the written part by its own letter -/
section
variable {X : Cx} {K : PySem.W.Frag}
theorem _root_.L2.OpR.wk {f : Value → Value → Sem Value} {r : PySem.W.Frag → R2} (h : OpR X f (r X.K)) (e : X.K = K) : OpR X f (r K) := e ▸ h
theorem _root_.L2.CallR.wk {f : Value} {r : PySem.W.Frag → List V → Hp → VK → Prop} (h : CallR X f (r X.K)) (e : X.K = K) : CallR X f (r K) := e ▸ h
theorem _root_.L2.IxR.wk {r : PySem.W.Frag → R2} (h : L2.IxR X (r X.K)) (e : X.K = K) : L2.IxR X (r K) := e ▸ h
theorem slAnyK (e : X.K = K) : L2.SlR X (rSlAny K) := e ▸ slAny
theorem pi_listK {tg l : Expr} {tl : TE} (hl : PE X l tl) (e : X.K = K) : PI X tg l (iList K tl) := e ▸ pi_list hl
theorem pi_tupK {tg l : Expr} {tl : TE} (hl : PE X l tl) (e : X.K = K) : PI X tg l (iTup K tl) := e ▸ pi_tup hl
theorem pg_tupK {es : List Expr} {k : Nat} {t : TGs} {n : Nat} {pos : Pos} (hc : X.calm = true) (h : PGs X es t) (e : X.K = K)
    (hn : (assignEach es X.env).length = n := by rfl) (hst : (assignEach es X.env).findIdx? (·.1) = none := by rfl) : PG X (.Tuple es k pos) (gTup K n t) := e ▸ pg_tup hc h hn hst
end
end Pd

set_option Elab.async false
set_option linter.all false
set_option maxRecDepth 100000
set_option maxHeartbeats 2000000
namespace Pd
open PySem PySem.Spec PyProof.Rows L2
/-! ### the stock that draws change: some ints, each with its bounds -/
def SJ (C : Nat → Int → Prop) (n : Nat) : HO → Prop := fun o => ∃ ns : List Int, ns.length = n ∧ o = .lst (ns.map V.int) ∧ ∀ (i : Nat) (x : Int), ns[i]? = some x → C i x
section
variable {Γ : Cn} {δ : List Sl} {te : TE} {P : Dt → Prop} {C : Nat → Int → Prop} {n i j : Nat} {a : Addr} {z : Int} {D : De}
theorem ed_stk (hd : δ[i]? = some (.dat (.raw (.ref a)))) (hM : Γ.W.M = some a) (hJ : Γ.W.J = SJ C n) (hz : z = (j : Int)) (hj : j < n) (p : ∀ x, C j x → P (.int x)) : ED Γ (tOp (rIx Γ.W.K) (tVar i) (tC (.int z))) δ P := fun G H σ Q at_ k => by
  obtain ⟨v, h1, h2⟩ := at_.env.dat i _ hd
  cases h2
  obtain ⟨hg, o, ho, hJo⟩ := at_.gd.st a hM
  rw [hJ] at hJo
  obtain ⟨ns, hl, rfl, hC⟩ := hJo
  obtain ⟨x, hx⟩ : ∃ x, ns[j]? = some x := ⟨ns[j]'(by omega), List.getElem?_eq_getElem (by omega)⟩
  refine ⟨.ref a, h1, .inl ⟨a, _, z, .int x, rfl, rfl, SqL.of ho, ?_, k _ _ G H (Fr.refl _ _ _) at_.gd (.int x) (p x (hC j x hx))⟩⟩
  rw [hz]
  exact atI_nat (by rw [List.getElem?_map, hx]; rfl)
theorem sd_stk (hd : δ[i]? = some (.dat (.raw (.ref a)))) (hM : Γ.W.M = some a) (hJ : Γ.W.J = SJ C n) (hz : z = (j : Int)) (hj : j < n) (h : ED Γ te δ fun d => ∃ x, d = .int x ∧ C j x ∧ D.nx δ) : SD Γ (tAsg te (gSub (tVar i) (tC (.int z)) rSetL)) δ D := fun G H σ E at_ hn hr hb hc =>
  h G H σ _ at_ fun v d G1 H1 f1 g1 r ⟨x, e, cx, p⟩ => by
    subst e
    cases r
    have at1 := at_.step f1 g1
    obtain ⟨w, h1, h2⟩ := at1.env.dat i _ hd
    cases h2
    obtain ⟨hg, o, ho, hJo⟩ := at1.gd.st a hM
    have hJo' := hJo
    rw [hJ] at hJo'
    obtain ⟨ns, hl, rfl, hC⟩ := hJo'
    refine ⟨.ref a, h1, a, ns.map V.int, z, j, rfl, rfl, ho, ?_, ?_⟩
    · rw [hz, List.length_map, hl]
      exact Evl.ixN_nat hj
    · have es : (ns.map V.int).set j (.int x) = (ns.set j x).map V.int := by rw [List.map_set]
      rw [es]
      refine hn δ G1 _ σ f1.g ⟨⟨at1.fr.g, fun b u e gb => ?_⟩, ⟨fun b u e => ?_, fun b e => ?_⟩, ?_⟩ p
      · obtain ⟨k1, k2⟩ := at1.fr.o b u e gb
        refine ⟨k1, fun hm => ?_⟩
        have hb : b ≠ a := fun q => hm (q ▸ hM)
        rw [upd_ne hb]
        exact k2 hm
      · have hb : b ≠ a := ne_of_none e hg
        rw [upd_ne hb]
        exact at1.gd.sub b u e
      · rw [hM] at e
        cases e
        refine ⟨hg, _, upd_same, ?_⟩
        rw [hJ]
        refine ⟨ns.set j x, by rw [List.length_set]; exact hl, rfl, fun i' y hy => ?_⟩
        rw [set_get] at hy
        by_cases q : j = i'
        · rw [if_pos q] at hy
          split at hy
          · cases hy
            exact q ▸ cx
          · cases hy
        · rw [if_neg q] at hy
          exact hC i' y hy
      · exact {
          len := at1.env.len
          dat := at1.env.dat
          mu := fun j' ds hj' => by
            obtain ⟨b, ys, k1, k2, k3, k4, k5, k6⟩ := at1.env.mu j' ds hj'
            have hb : b ≠ a := fun q => k5 (q ▸ hM)
            exact ⟨b, ys, k1, by rw [upd_ne hb]; exact k2, k3, k4, k5, k6⟩
          slf := fun j' Cc fds hj' => by
            obtain ⟨b, dx, ys, k1, k2, k3, k4, k5, k6, k7, k8, k9, k10⟩ := at1.env.slf j' Cc fds hj'
            have hb : b ≠ a := fun q => k8 (q ▸ hM)
            have hb2 : dx ≠ a := fun q => k9 (q ▸ hM)
            exact ⟨b, dx, ys, k1, by rw [upd_ne hb]; exact k2, by rw [upd_ne hb2]; exact k3, k4, k5, k6, k7, k8, k9, k10⟩
          sep := at1.env.sep }
end

/-! ### comprehensions without a test -/
section
variable {Γ : Cn} {δ : List Sl} {te : TE} {wi : TI} {g : TG} {vs js : List Nat}
/-- every element is as R says -/
theorem nl_lcP {P : List Dt → Prop} (hj : ∀ j ∈ js, j ∈ vs) (h : WD Γ wi δ fun ds => ds.length ≤ 100000 ∧ ∃ R : Dt → Prop, (∀ (i : Nat) x, ds[i]? = some x → GD Γ g js (wipeD δ vs) x fun δ2 => ED Γ te δ2 R) ∧ (∀ es : List Dt, es.length = ds.length → (∀ y ∈ es, R y) → P es)) :
    NL Γ (tLc wi g tYes te vs) δ P := nl_lc hj fun G H σ Q at_ k => h G H σ Q at_ fun J ds G' H' f gd w ⟨hl, R, h1, h2⟩ => k J ds G' H' f gd w ⟨hl, fun i acc => acc.length = i ∧ ∀ y ∈ acc, R y, ⟨rfl, fun y hy => absurd hy List.not_mem_nil⟩, fun i x acc hx ⟨ha, hR⟩ => by
      intro G2 H2 σ2 v Q2 at2 r2 k2
      refine h1 i x hx G2 H2 σ2 v Q2 at2 r2 fun δ' σ' a' hw q => k2 δ' σ' a' hw ?_
      refine td_yes ⟨fun _ => ?_, fun z => by cases z⟩
      intro G3 H3 σ3 Q3 at3 k3
      exact q G3 H3 σ3 Q3 at3 fun v d G4 H4 f4 g4 r4 p4 => k3 v d G4 H4 f4 g4 r4 ⟨by rw [List.length_append, ha]; rfl, fun y hy => by
        rcases List.mem_append.mp hy with hy | hy
        · exact hR y hy
        · rw [List.mem_singleton.mp hy]; exact p4⟩, fun acc ⟨ha, hR⟩ => h2 acc ha hR⟩
/-- the elements are a function of what is walked -/
theorem nl_lcMap {α : Type} {P : List Dt → Prop} (hj : ∀ j ∈ js, j ∈ vs) (h : WD Γ wi δ fun ds => ds.length ≤ 100000 ∧ ∃ (cs : List α) (g0 h0 : α → Dt), ds = cs.map g0 ∧ (∀ c ∈ cs, GD Γ g js (wipeD δ vs) (g0 c) fun δ2 => ED Γ te δ2 fun y => y = h0 c) ∧ P (cs.map h0)) :
    NL Γ (tLc wi g tYes te vs) δ P := nl_lc hj fun G H σ Q at_ k => h G H σ Q at_ fun J ds G' H' f gd w ⟨hl, cs, g0, h0, e, h1, h2⟩ => k J ds G' H' f gd w ⟨hl, fun i acc => acc = (cs.take i).map h0, rfl, fun i x acc hx ha => by
      subst e
      rw [List.getElem?_map] at hx
      cases hc : cs[i]? with
      | none => rw [hc] at hx; cases hx
      | some c =>
        rw [hc] at hx
        cases hx
        intro G2 H2 σ2 v Q2 at2 r2 k2
        refine h1 c (List.mem_of_getElem? hc) G2 H2 σ2 v Q2 at2 r2 fun δ' σ' a' hw q => k2 δ' σ' a' hw ?_
        refine td_yes ⟨fun _ => ?_, fun z => by cases z⟩
        intro G3 H3 σ3 Q3 at3 k3
        refine q G3 H3 σ3 Q3 at3 fun v d G4 H4 f4 g4 r4 p4 => k3 v d G4 H4 f4 g4 r4 ?_
        show acc ++ [d] = (cs.take (i + 1)).map h0
        rw [List.take_add_one, hc, List.map_append, ha, show d = h0 c from p4]
        rfl, fun acc ha => by
      subst e
      have ha' : acc = (cs.take (cs.map g0).length).map h0 := ha
      rw [List.length_map, List.take_length] at ha'
      rw [ha']
      exact h2⟩
end
/-- a def whose last statement gives back a new list -/
theorem body_ofN {K : PySem.W.Frag} {n : Nat} {Pre : Wo → List Dt → Prop} {R : List Dt → List Dt → Prop} {N : List Str} {t1 : TS} {te : TE} {vs : List V} {H : Hp} {Q : VK} {E : XK}
    (h : ∀ (Γ : Cn) ds, Γ.W.K = K → ds.length = n → Pre Γ.W ds → SD Γ t1 (slots N.length ds) { nx := fun δ' => NL Γ te δ' (R ds), rt := fun _ => False }) (hs : spN K n Pre R vs H Q E) : tSeq t1 (tRet te) { nx := fun _ H' => Q .non H', rt := Q } (L2.start N vs) H := by
  obtain ⟨hl, W, ds, G, rfl, g, r, p, k⟩ := hs
  refine h (cn0 W G H) ds rfl (r.length.symm.trans hl) p G H (L2.start N vs) _ (at_start g r) ?_ ?_ ?_ ?_
  · intro δ' G' H' σ' e a q
    refine q G' H' σ' _ a fun b xs es G2 H2 f2 g2 hb h1 h2 r2 p2 => ?_
    exact k b xs es G2 H2 (a.fr.trans f2 g2) g2 (a.h0 hb) h1 h2 r2 p2
  · intro v d G' H' f g' rr q
    exact q.elim
  · intro δ' G' H' σ' e a q
    exact q.elim
  · intro δ' G' H' σ' e a q
    exact q.elim
section
variable {W : Wo} {P : Dt → Prop} {i : Int} {j : Nat}
theorem od_ixLi {xs : List Dt} {d : Dt} (hi : i = (j : Int)) (h : xs[j]? = some d) (p : P d) : OD W (rIx W.K) (.lst xs) (.int i) P := by subst hi; exact od_ixL h p
theorem od_ixTi {xs : List Dt} {d : Dt} (hi : i = (j : Int)) (h : xs[j]? = some d) (p : P d) : OD W (rIx W.K) (.tup xs) (.int i) P := by subst hi; exact od_ixT h p
theorem od_ixSi {z : Str} {c : Nat} (hi : i = (j : Int)) (hz : z.length ≤ 100000) (h : z.cps.toList[j]? = some c) (p : P (.str ⟨#[c]⟩)) : OD W (rIx W.K) (.str z) (.int i) P := by subst hi; exact od_ixS hz h p
end
theorem ED.imp {Γ : Cn} {δ : List Sl} {te : TE} {P P' : Dt → Prop} (h : ED Γ te δ P) (k : ∀ d, P d → P' d) : ED Γ te δ P' := fun G H σ Q at_ q => h G H σ Q at_ fun v d G' H' f g r p => q v d G' H' f g r (k d p)
theorem join_len {sep : Str} {ys : List Str} : (Txt.join sep ys).length ≤ (ys.map (·.length)).sum + ys.length * sep.length := by
  rw [TL.join_eq]
  exact StrLaws.join_length_le sep ys
/-- texts of one sign each -/
theorem signs_all {es : List Dt} (h : ∀ y ∈ es, ∃ c : Nat, y = .str ⟨#[c]⟩) : ∃ ys : List Str, es = ys.map Dt.str ∧ ∀ y ∈ ys, y.length = 1 := by
  induction es with
  | nil => exact ⟨[], rfl, fun y hy => absurd hy List.not_mem_nil⟩
  | cons d es ih =>
    obtain ⟨c, hc⟩ := h d List.mem_cons_self
    obtain ⟨ys, e, hy⟩ := ih fun y hy => h y (List.mem_cons_of_mem _ hy)
    refine ⟨⟨#[c]⟩ :: ys, by rw [hc, e]; rfl, fun y hy' => ?_⟩
    rcases List.mem_cons.mp hy' with rfl | hy'
    · rfl
    · exact hy y hy'
theorem sum_ones : ∀ {ys : List Str}, (∀ y ∈ ys, y.length = 1) → (ys.map (·.length)).sum = ys.length
  | [], _ => rfl
  | y :: ys, h => by
    rw [List.map_cons, List.sum_cons, sum_ones fun z hz => h z (List.mem_cons_of_mem _ hz), h y List.mem_cons_self, List.length_cons]
    omega
/-- as sd_enter, the new context a letter -/
theorem sd_world {Γ : Cn} {δ : List Sl} {i : Nat} {ds : List Dt} {ts : TS} {D : De} (J : HO → Prop) (hm : Γ.W.M = none) (hi : δ[i]? = some (.mu ds)) (hj : ∀ G xs, DrAll Γ.W.K G xs ds → J (.lst xs))
    (h : ∀ (Γ' : Cn) (a : Addr), Γ'.W.K = Γ.W.K → Γ'.W.M = some a → Γ'.W.J = J → SD Γ' ts (δ.set i (.dat (.raw (.ref a)))) D) : SD Γ ts δ D :=
  sd_enter J hm hi hj fun a h0 => h (Γ.enter a J hm h0) a rfl rfl rfl
theorem ed_neg {Γ : Cn} {δ : List Sl} {ta : TE} {P : Dt → Prop} (h : ED Γ ta δ fun d => ∃ i, d = .int i ∧ P (.int (-i))) : ED Γ (tUn (rU fun i => .int (-i)) ta) δ P := fun G H σ Q at_ k =>
  h G H σ _ at_ fun v d G1 H1 f1 g1 r ⟨i, e, p⟩ => by
    subst e
    cases r
    exact ⟨i, rfl, k _ _ G1 H1 f1 g1 (.int _) p⟩
theorem od_repI {W : Wo} {P : Dt → Prop} {xs : List Dt} {i : Int} {n : Nat} (hi : i = (n : Int)) (hl : xs.length * n ≤ 100000) (hn : n ≤ 100000) (p : P (.lst (List.replicate n xs).flatten)) : OD W rMulA (.lst xs) (.int i) P := by
  subst hi
  exact od_rep hl hn p
theorem shaped_int (i : Int) : SeqAt.shaped (.int i) = true := by simp [SeqAt.shaped, PyData.canLay0, PyData.depth]
end Pd

set_option Elab.async false
set_option linter.all false
set_option maxRecDepth 100000
set_option maxHeartbeats 4000000
namespace Pd.K01
open PySem PySem.Spec PyProof.Rows L2 Pd
def top (i : Nat) : Stmt := PySem.Challenge.pw_everysite_k01_names.main.body.getD i (.Pass ⟨0, 0, 0, 0⟩)
/-- what the top has left -/
structure Txt (mg : Str → Option Value) : Prop where
  b_len : mg "len" = none
  b_int : mg "int" = none
  b_abs : mg "abs" = none
  b_isinstance : mg "isinstance" = none
  b_str : mg "str" = none
  b_all : mg "all" = none
  b_range : mg "range" = none
  b_max : mg "max" = none
  b_min : mg "min" = none
  b_repr : mg "repr" = none
  c_LETTERS : ∃ u, mg "LETTERS" = some u ∧ RelV (.str "abcdefghijklmnopqrstuvwxyz") u
  c_SIGNS : ∃ u, mg "SIGNS" = some u ∧ RelV (.str "abcdefghijklmnopqrstuvwxyz0123456789") u
  c_LONGEST : ∃ u, mg "LONGEST" = some u ∧ RelV (.int 8) u
local macro_rules | `(tactic| walk_at "p0") => `(tactic| first
  | with_reducible refine sd_seq ?_ | with_reducible refine sd_ret ?_ | with_reducible refine sd_if ?_ | with_reducible refine sd_asg ?_ | with_reducible refine sd_next ?_ | with_reducible refine sd_parD ?_ | with_reducible refine sd_par3 ?_
  | ((with_reducible refine' ed_var ?hv ?_); (case hv => rfl)) | with_reducible refine ed_int ?_ | with_reducible refine ed_str ?_ | with_reducible refine ed_bl ?_ | with_reducible refine ed_non ?_ | with_reducible refine ed_raw ?_
  | with_reducible refine ed_op ?_ | with_reducible refine ed_cb ?_ | with_reducible refine ra_cons ?_ | with_reducible refine ra_nil ?_ | with_reducible refine ad_cons ?_ | with_reducible refine ad_nil ?_ | with_reducible refine ed_chain ?_
  | with_reducible refine td_test ?_ | with_reducible refine td_B ?_ | with_reducible refine td_not ?_ | with_reducible refine td_and ?_ | with_reducible refine td_or ?_ | with_reducible refine ed_andV ?_ | with_reducible refine ed_orV ?_ | with_reducible refine ed_notV ?_ | with_reducible refine ed_if ?_
  | with_reducible refine ED.rd ?_ | with_reducible refine gd_name ?_ | with_reducible refine op_none ?_ | with_reducible refine op_some ?_
  | with_reducible refine od_addI ?_ | with_reducible refine od_subI ?_ | with_reducible refine od_lt ?_ | with_reducible refine od_le ?_ | with_reducible refine od_gt ?_ | with_reducible refine od_ge ?_ | with_reducible refine od_eqI ?_ | with_reducible refine od_neI ?_ | with_reducible refine od_eqS ?_ | with_reducible refine od_neS ?_
  | with_reducible refine cd_int ?_ | with_reducible refine cd_abs ?_ | with_reducible refine cd_max2 ?_ | with_reducible refine cd_min2 ?_ | with_reducible refine cd_lenScr ?_ | ((with_reducible refine cd_lenS ?hz ?_); (case hz => first | decide | omega)) | with_reducible refine cd_lenL ?_ | with_reducible refine cd_lenT ?_
  | with_reducible refine ⟨_, rfl, ?_⟩
  | dsimp only [List.set_cons_zero, List.set_cons_succ]
  | refine ⟨fun _ => ?_, fun z => Bool.noConfusion z⟩ | refine ⟨fun z => Bool.noConfusion z, fun _ => ?_⟩)
local macro_rules | `(tactic| walk_at "p1") => `(tactic| first
  | ((with_reducible refine' ed_stk ?hd ?hM ?hJ ?hz ?hj ?_); (case hd => rfl); (case hM => assumption); (case hJ => assumption); (case hz => first | exact (rfl : (0 : Int) = ((0 : Nat) : Int)) | exact (rfl : (1 : Int) = ((1 : Nat) : Int)) | exact (rfl : (2 : Int) = ((2 : Nat) : Int))); (case hj => decide); intro x hx; (try have hx0 := hx.1 rfl); (try have hx1 := hx.2 rfl))
  | walk_at "p0"
  | ((with_reducible refine od_mod ?hc ?_); (case hc => first | decide | omega))
  | ((with_reducible refine od_mulI ?hc ?_); (case hc => first | exact .inl ⟨by decide, by decide⟩ | exact .inr ⟨by decide, by decide⟩ | exact .inl ⟨by omega, by omega⟩ | exact .inr ⟨by omega, by omega⟩))
  | ((with_reducible refine od_div ?hc ?_); (case hc => first | exact wide_div (b := 10) (by decide) (by decide) (by decide) (by decide) | exact wide_div (b := 10) (by omega) (by omega) (by decide) (by decide)))
  | ((with_reducible refine od_pow ?hc ?_); (case hc => exact ⟨by decide, by decide, by decide⟩)))
local macro_rules | `(tactic| walk_at "pr") => `(tactic| repeat walk_at "p1")

abbrev StC : Nat → Int → Prop := fun i x => (i = 0 → 0 ≤ x) ∧ (i = 1 → 0 ≤ x ∧ x < 2147483549)
def PreStk (W : Wo) (d : Dt) : Prop := ∃ a, d = .raw (.ref a) ∧ W.M = some a ∧ W.J = SJ StC 3
section
variable {P : Program} {w : World} {K : PySem.W.Frag} {mg : Str → Option Value} {base : Heap}
/-! ### _law_take -/
abbrev s__law_take : Stmt := top 8
abbrev N__law_take : List Str := ["_law_stock_here", "_law_many", "_law_digit", "_law_seed", "_law_turn"]
theorem sc__law_take : FnScope N__law_take ["_law_stock_here", "_law_many"] (defScope s__law_take) := ⟨rfl, rfl, rfl, by decide +kernel, rfl, by decide +kernel, by decide +kernel⟩
theorem sl__law_take (d0 d1 : Dt) : slots N__law_take.length [d0, d1] = [.dat d0, .dat d1, .un, .un, .un] := rfl
def preTake : Wo → List Dt → Prop := fun W ds => ∃ d n, ds = [d, .int n] ∧ PreStk W d ∧ 1 ≤ n ∧ n ≤ 1000
def resTake : List Dt → Dt → Prop := fun ds r => ∀ d n, ds = [d, .int n] → ∃ k : Nat, r = .int (k : Int) ∧ (k : Int) < n
abbrev spTake (K : PySem.W.Frag) : Sp := spW K 2 preTake resTake
theorem nat_of {x n : Int} (h : 0 ≤ x) (h2 : x < n) : ∃ k : Nat, Dt.int x = .int (k : Int) ∧ (k : Int) < n := ⟨x.toNat, by rw [Int.toNat_of_nonneg h], by omega⟩
theorem ok_take {f : Addr} {fd : FuncData} (F : Fun K "_law_take" "_law_take" s__law_take f fd) (T : Txt mg) : FnOk P w K mg base L2.CX0 1 f fd ["_law_stock_here", "_law_many"] (spTake K) := by
  refine F.ok sc__law_take (fun vs H Q E h => h.1) (fun cdv A outer s H vs Q E hr h => ?_)
  have hu65 := hr.units65
  refine ⟨_, (pss_cons (ps_asg (pe_op (OpR.wk (r := rAddA) (K := K) opAdd rfl) (pe_ix (IxR.wk (r := rIx) (K := K) ix_seq rfl) (pv 0) pe_int (fun _ _ => rfl)) pe_int) (pg_sub (pv 0) pe_int set_list))
      (pss_cons (ps_if (pt_cmpR op_gt (pe_ix (IxR.wk (r := rIx) (K := K) ix_seq rfl) (pv 0) pe_int (fun _ _ => rfl)) pe_int (nomark _)) (pss_cons (ps_set (i := 2) sc__law_take.nd rfl (Or.inl rfl) (pe_op op_mod (pe_callTy callInt (by rfl) T.b_int (by decide +kernel) (pa_cons (pe_ix (IxR.wk (r := rIx) (K := K) ix_seq rfl) (pv 0) pe_int (fun _ _ => rfl)) pa_nil)) (pv 1)))
      (pss_cons (ps_asg (pe_op op_fdivW (pe_ix (IxR.wk (r := rIx) (K := K) ix_seq rfl) (pv 0) pe_int (fun _ _ => rfl)) (pv 1)) (pg_sub (pv 0) pe_int set_list))
      (pss_one (ps_ret (pv 2))))) pss_nil)
      (pss_cons (ps_par (i := 3) (j := 4) (by rfl) sc__law_take.nd rfl rfl (by decide) rfl rfl (pa_cons (pe_callTy callInt (by rfl) T.b_int (by decide +kernel) (pa_cons (pe_ix (IxR.wk (r := rIx) (K := K) ix_seq rfl) (pv 0) pe_int (fun _ _ => rfl)) pa_nil)) (pa_cons (pe_callTy callInt (by rfl) T.b_int (by decide +kernel) (pa_cons (pe_ix (IxR.wk (r := rIx) (K := K) ix_seq rfl) (pv 0) pe_int (fun _ _ => rfl)) pa_nil)) pa_nil)) (by rfl))
      (pss_cons (ps_set (i := 3) sc__law_take.nd rfl (Or.inl rfl) (pe_op op_mod (pe_callTy callInt (by rfl) T.b_int (by decide +kernel) (pa_cons (pe_op (OpR.wk (r := rAddA) (K := K) opAdd rfl) (pe_op (OpR.wk (r := rAddA) (K := K) opAdd rfl) (pe_op opMul (pv 3) (pe_op (OpR.wk (r := rAddA) (K := K) opAdd rfl) (pe_op (OpR.wk (r := rAddA) (K := K) opAdd rfl) (pv 3) pe_int) (pe_op opMul pe_int (pv 4)))) (pe_op opMul pe_int (pv 4))) pe_int) pa_nil)) pe_int))
      (pss_cons (ps_asg (pv 3) (pg_sub (pv 0) pe_int set_list))
      (pss_one (ps_ret (pe_op op_mod (pe_callTy callInt (by rfl) T.b_int (by decide +kernel) (pa_cons (pe_op op_fdivW (pv 3) pe_int) pa_nil)) (pv 1))))))))), ?_⟩
  try dsimp only [cxOf, Cx.nox]
  refine body_of (N := N__law_take) (fun Γ ds hK hl hp => ?_) h
  subst hK
  obtain ⟨_, n, rfl, ⟨a, rfl, hM, hJ⟩, h1, h2⟩ := hp
  rw [sl__law_take]
  refine sd_seq (sd_stk (i := 0) (a := a) (j := 2) rfl hM hJ rfl (by decide) ?_)
  walk_at "pr"
  refine ⟨⟨fun z => absurd z (by decide), fun z => absurd z (by decide)⟩, ?_⟩
  walk_at "pr"
  refine ⟨fun _ => ?_, fun _ => ?_⟩
  · walk_at "pr"
    refine sd_stk (i := 0) (a := a) (j := 0) rfl hM hJ rfl (by decide) ?_
    walk_at "pr"
    refine ⟨⟨fun _ => Int.ediv_nonneg (by assumption) (by omega), fun z => absurd z (by decide)⟩, ?_⟩
    walk_at "pr"
    intro d m e
    cases e
    exact nat_of (Int.emod_nonneg _ (by omega)) (Int.emod_lt_of_pos _ (by omega))
  · walk_at "pr"
    refine sd_stk (i := 0) (a := a) (j := 1) rfl hM hJ rfl (by decide) ?_
    walk_at "pr"
    refine ⟨⟨fun z => absurd z (by decide), fun _ => ⟨Int.emod_nonneg _ (by decide), Int.emod_lt_of_pos _ (by decide)⟩⟩, ?_⟩
    walk_at "pr"
    intro d m e
    cases e
    exact nat_of (Int.emod_nonneg _ (by omega)) (Int.emod_lt_of_pos _ (by omega))
/-! ### _law_cell -/
abbrev s__law_cell : Stmt := top 6
abbrev N__law_cell : List Str := ["_law_script", "_law_k", "_law_number", "_law_cell_here", "_law_more"]
theorem sc__law_cell : FnScope N__law_cell ["_law_script", "_law_k"] (defScope s__law_cell) := ⟨rfl, rfl, rfl, by decide +kernel, rfl, by decide +kernel, by decide +kernel⟩
theorem sl__law_cell (d0 d1 : Dt) : slots N__law_cell.length [d0, d1] = [.dat d0, .dat d1, .un, .un, .un] := rfl
def preCell : Wo → List Dt → Prop := fun _ ds => ∃ (ns : List Int) (k : Nat), ds = [.scr ns, .int (k : Int)] ∧ k ≤ 1000
def resInt : List Dt → Dt → Prop := fun _ r => ∃ z : Int, r = .int z
abbrev spCell (K : PySem.W.Frag) : Sp := spW K 2 preCell resInt
theorem ok_cell {f : Addr} {fd : FuncData} (F : Fun K "_law_cell" "_law_cell" s__law_cell f fd) (T : Txt mg) : FnOk P w K mg base L2.CX0 1 f fd ["_law_script", "_law_k"] (spCell K) := by
  refine F.ok sc__law_cell (fun vs H Q E h => h.1) (fun cdv A outer s H vs Q E hr h => ?_)
  have hu65 := hr.units65
  refine ⟨_, (pss_cons (ps_if (pt_cmpR op_lt (pv 1) (pe_callB (CallR.wk (r := Pd.rLen) (K := K) callLen rfl) (by rfl) T.b_len PySem.boot_len (pa_cons (pv 0) pa_nil)) (nomark _)) (pss_one (ps_ret (pe_callTy callInt (by rfl) T.b_int (by decide +kernel) (pa_cons (pe_ix (IxR.wk (r := rIx) (K := K) ix_seq rfl) (pv 0) (pv 1) (fun _ _ => rfl)) pa_nil)))) pss_nil)
      (pss_cons (ps_set (i := 2) sc__law_cell.nd rfl (Or.inl rfl) (pe_op (OpR.wk (r := rAddA) (K := K) opAdd rfl) pe_int (pe_op opMul (pe_op opMul pe_int (pe_op (OpR.wk (r := rAddA) (K := K) opAdd rfl) (pv 1) pe_int)) (pe_op (OpR.wk (r := rAddA) (K := K) opAdd rfl) (pv 1) pe_int))))
      (pss_cons (ps_for PassesOwn.never rfl (pi_listK (K := K) (pe_slice (slAnyK (K := K) rfl) (pv 0) po_none (po_some pe_int)) rfl) (pg_name (i := 3) sc__law_cell.nd rfl (Or.inl rfl)) (pss_cons (ps_set (i := 4) sc__law_cell.nd rfl (Or.inl rfl) (pe_op opMul (pe_op op_mod (pe_callTy callInt (by rfl) T.b_int (by decide +kernel) (pa_cons (pv 3) pa_nil)) pe_int) (pe_op (OpR.wk (r := rAddA) (K := K) opAdd rfl) (pe_op opMul pe_int (pv 1)) pe_int)))
      (pss_one (ps_set (i := 2) sc__law_cell.nd rfl (Or.inl rfl) (pe_op op_mod (pe_callTy callInt (by rfl) T.b_int (by decide +kernel) (pa_cons (pe_op (OpR.wk (r := rAddA) (K := K) opAdd rfl) (pe_op (OpR.wk (r := rAddA) (K := K) opAdd rfl) (pe_op opMul (pv 2) pe_int) (pv 4)) pe_int) pa_nil)) pe_int)))))
      (pss_one (ps_ret (pv 2)))))), ?_⟩
  try dsimp only [cxOf, Cx.nox]
  refine body_of (N := N__law_cell) (fun Γ ds hK hl hp => ?_) h
  subst hK
  obtain ⟨ns, k, rfl, hk⟩ := hp
  rw [sl__law_cell]
  walk_at "pr"
  refine ⟨fun hb => ?_, fun hb => ?_⟩
  · have hlt : k < ns.length := by
      have := of_decide_eq_true hb
      omega
    walk_at "pr"
    refine od_ixScr (List.getElem?_eq_getElem hlt) ?_
    walk_at "pr"
    exact ⟨_, rfl⟩
  · walk_at "pr"
    refine sd_for (js := [3]) (wd_list (ed_sl ?_))
    walk_at "pr"
    refine .inr (.inr (.inr ⟨ns, rfl, _, rfl, ?_⟩))
    refine ⟨fun i δ' => ∃ (z : Int) (c m : Sl), δ' = [.dat (.scr ns), .dat (.int (k : Int)), .dat (.int z), c, m], ⟨_, _, _, rfl⟩, ?_, ?_⟩
    · rintro i x δ' hx ⟨z, c, m, rfl⟩
      obtain ⟨y, rfl⟩ : ∃ y, x = .int y := by
        rw [List.getElem?_map] at hx
        cases q : (cutD ns none (some 5))[i]? with
        | none => rw [q] at hx; cases hx
        | some y => rw [q] at hx; cases hx; exact ⟨y, rfl⟩
      walk_at "pr"
      exact ⟨_, _, _, rfl⟩
    · rintro δ' ⟨z, c, m, rfl⟩
      walk_at "pr"
      exact ⟨_, rfl⟩
/-! ### _law_stock -/
abbrev s__law_stock : Stmt := top 7
abbrev N__law_stock : List Str := ["_law_cell_here", "_law_great"]
theorem sc__law_stock : FnScope N__law_stock ["_law_cell_here"] (defScope s__law_stock) := ⟨rfl, rfl, rfl, by decide +kernel, rfl, by decide +kernel, by decide +kernel⟩
theorem sl__law_stock (d0 : Dt) : slots N__law_stock.length [d0] = [.dat d0, .un] := rfl
def preStock : Wo → List Dt → Prop := fun _ ds => ∃ z : Int, ds = [.int z]
def resStock : List Dt → List Dt → Prop := fun _ es => ∃ ns : List Int, ns.length = 3 ∧ es = ns.map Dt.int ∧ ∀ (i : Nat) (x : Int), ns[i]? = some x → StC i x
abbrev spStock (K : PySem.W.Frag) : Sp := spN K 1 preStock resStock
theorem stock_ok {g z : Int} (hg : 0 ≤ g) : ∀ (i : Nat) (x : Int), [g, z % 2147483549, 0][i]? = some x → StC i x := by
  intro i x hx
  match i, hx with
  | 0, hx => cases hx; exact ⟨fun _ => hg, fun z => absurd z (by decide)⟩
  | 1, hx => cases hx; exact ⟨fun z => absurd z (by decide), fun _ => ⟨Int.emod_nonneg _ (by decide), Int.emod_lt_of_pos _ (by decide)⟩⟩
  | 2, hx => exact ⟨fun z => absurd z (by decide), fun z => absurd z (by decide)⟩
  | i + 3, hx => simp at hx
theorem abs_nn (z : Int) : 0 ≤ (if z < 0 then -z else z) := by split <;> omega
theorem ok_stock {f : Addr} {fd : FuncData} (F : Fun K "_law_stock" "_law_stock" s__law_stock f fd) (T : Txt mg) : FnOk P w K mg base L2.CX0 1 f fd ["_law_cell_here"] (spStock K) := by
  refine F.ok sc__law_stock (fun vs H Q E h => h.1) (fun cdv A outer s H vs Q E hr h => ?_)
  have hu65 := hr.units65
  refine ⟨_, (pss_cons (ps_set (i := 1) sc__law_stock.nd rfl (Or.inl rfl) (pe_ifExp (PW.pt (pw_or (pt_cmpR op_lt (pv 0) pe_int (nomark _)) (pw_or1 (pt_cmpR op_ge (pv 0) (pe_op op_pow pe_int pe_int) (nomark _))))) (pe_callB callAbs (by rfl) T.b_abs (by decide +kernel) (pa_cons (pv 0) pa_nil)) pe_int))
      (pss_one (ps_ret (pe_lst (pa_cons (pv 1) (pa_cons (pe_op op_mod (pe_callTy callInt (by rfl) T.b_int (by decide +kernel) (pa_cons (pv 0) pa_nil)) pe_int) (pa_cons pe_int pa_nil))))))), ?_⟩
  try dsimp only [cxOf, Cx.nox]
  refine body_ofN (N := N__law_stock) (fun Γ ds hK hl hp => ?_) h
  subst hK
  obtain ⟨z, rfl⟩ := hp
  rw [sl__law_stock]
  walk_at "pr"
  refine ⟨fun hb => ⟨fun _ => ?_, fun z => by cases z⟩, fun hb => ?_⟩
  · walk_at "pr"
    refine nl_lst ?_
    walk_at "pr"
    exact ⟨by show 3 ≤ 100000; decide, _, rfl, rfl, stock_ok (abs_nn z)⟩
  · walk_at "pr"
    refine ⟨fun hb => ?_, fun hb => ?_⟩
    · walk_at "pr"
      refine nl_lst ?_
      walk_at "pr"
      exact ⟨by show 3 ≤ 100000; decide, _, rfl, rfl, stock_ok (abs_nn z)⟩
    · walk_at "pr"
      refine nl_lst ?_
      walk_at "pr"
      exact ⟨by show 3 ≤ 100000; decide, _, rfl, rfl, stock_ok (by decide)⟩
/-! ### is_name, _law_is_name -/
abbrev lettersS : Str := "abcdefghijklmnopqrstuvwxyz"
abbrev signsS : Str := "abcdefghijklmnopqrstuvwxyz0123456789"
def nameOk (z : Str) : Bool := decide (1 ≤ (z.length : Int) ∧ (z.length : Int) ≤ 8) && (decide (z.cps.toList.headD 0 ∈ lettersS.cps.toList) && (z.cps.toList.map fun c => decide (c ∈ signsS.cps.toList)).all id)
def isName : Dt → Bool
  | .str z => nameOk z
  | _ => false
theorem nameOk_no {z : Str} (h : ¬ (1 ≤ (z.length : Int) ∧ (z.length : Int) ≤ 8)) : nameOk z = false := by
  unfold nameOk
  rw [decide_eq_false h]
  rfl
theorem nameOk_in {z : Str} (h : 1 ≤ (z.length : Int) ∧ (z.length : Int) ≤ 8) : nameOk z = (decide (z.cps.toList.headD 0 ∈ lettersS.cps.toList) && (z.cps.toList.map fun c => decide (c ∈ signsS.cps.toList)).all id) := by
  unfold nameOk
  rw [decide_eq_true h]
  rfl
theorem nameOk_cons {z : Str} {c : Nat} {r : List Nat} (h : 1 ≤ (z.length : Int) ∧ (z.length : Int) ≤ 8) (hc : z.cps.toList = c :: r) :
    nameOk z = (decide (c ∈ lettersS.cps.toList) && (z.cps.toList.map fun c => decide (c ∈ signsS.cps.toList)).all id) := by
  have e : z.cps.toList.headD 0 = c := by rw [hc]; rfl
  rw [nameOk_in h, e]
theorem len_cps (z : Str) : z.length = z.cps.toList.length := by simp [Str.length]
/-- a text that is not too long, or a value of another kind -/
def Thing (d : Dt) : Prop := (∃ z : Str, d = .str z ∧ z.length ≤ 1000) ∨ (∃ t, tyD d = some t ∧ kitB t "str" = some false ∧ isName d = false)
def preName : Wo → List Dt → Prop := fun _ ds => ∃ d, ds = [d] ∧ Thing d
def resName : List Dt → Dt → Prop := fun ds r => ∀ d, ds = [d] → r = .bl (isName d)
abbrev spName (K : PySem.W.Frag) : Sp := spW K 1 preName resName
abbrev s_is_name : Stmt := top 4
abbrev N_is_name : List Str := ["value", "sign"]
theorem sc_is_name : FnScope N_is_name ["value"] (defScope s_is_name) := ⟨rfl, rfl, rfl, by decide +kernel, rfl, by decide +kernel, by decide +kernel⟩
theorem sl_is_name (d0 : Dt) : slots N_is_name.length [d0] = [.dat d0, .un] := rfl
theorem ok_is_name {f : Addr} {fd : FuncData} (F : Fun K "is_name" "is_name" s_is_name f fd) (T : Txt mg) : FnOk P w K mg base L2.CX0 1 f fd ["value"] (spName K) := by
  refine F.ok sc_is_name (fun vs H Q E h => h.1) (fun cdv A outer s H vs Q E hr h => ?_)
  have hu65 := hr.units65
  refine ⟨_, (pss_cons (ps_if (PW.pt (pw_or (pt_not (pt_val (pe_callB (CallR.wk (r := rIsi) (K := K) call_isi rfl) (by rfl) T.b_isinstance (by decide +kernel) (pa_cons (pv 0) (pa_cons (pe_bltn (v := .ty "str") (u := .type "str") (by rfl) T.b_str (by decide +kernel) rfl) pa_nil))))) (pw_or1 (pt_not (pt_chain op_le op_le pe_int (pe_callB (CallR.wk (r := Pd.rLen) (K := K) callLen rfl) (by rfl) T.b_len PySem.boot_len (pa_cons (pv 0) pa_nil)) (pe_gc (by rfl) T.c_LONGEST)))))) (pss_one (ps_ret pe_bl)) pss_nil)
      (pss_one (ps_ret (pe_and (pe_cmpR (OpR.wk (r := rInA) (K := K) (opIn hu65) rfl) (pe_ix (IxR.wk (r := rIx) (K := K) ix_seq rfl) (pv 0) pe_int (fun _ _ => rfl)) (pe_gc (by rfl) T.c_LETTERS) (by rfl)) (pe_one (pe_callB (CallR.wk (r := rAll) (K := K) (cr_all rfl) rfl) (by rfl) T.b_all (by decide +kernel) (pa_cons (pe_lc (own := [("sign", 1)]) (by rfl) sc_is_name.nd (pi_str (pv 0)) (blkOk_by (own := [("sign", 1)]) (N := N_is_name) (sc := defScope s_is_name) (by decide +kernel)) (fun _ _ _ _ _ => (pg_name (i := 1) sc_is_name.nd rfl (Or.inl rfl))) (fun _ _ _ _ _ => pts_nil) (fun _ _ _ _ _ => (pe_cmpR (OpR.wk (r := rInA) (K := K) (opIn hu65) rfl) (pv 1) (pe_gc (by rfl) T.c_SIGNS) (by rfl)))) pa_nil))))))), ?_⟩
  try dsimp only [cxOf, Cx.nox]
  refine body_of (N := N_is_name) (fun Γ ds hK hl hp => ?_) h
  subst hK
  obtain ⟨d, rfl, hd⟩ := hp
  rw [sl_is_name]
  rcases hd with ⟨z, rfl, hz⟩ | ⟨t, ht, hk, hn⟩
  · walk_at "pr"
    refine cd_isi (b := true) rfl (by decide +kernel) ?_
    walk_at "pr"
    refine ⟨fun h1 => ?_, fun h1 => ?_⟩
    · walk_at "pr"
      refine ⟨fun h2 => ?_, fun h2 => ?_⟩
      · walk_at "pr"
        intro d e
        cases e
        exact congrArg Dt.bl (nameOk_no (by simp at h2; omega)).symm
      · have hr' : 1 ≤ (z.length : Int) ∧ (z.length : Int) ≤ 8 := ⟨of_decide_eq_true h1, by simp at h2; omega⟩
        walk_at "pr"
        obtain ⟨c, r, hc⟩ : ∃ c r, z.cps.toList = c :: r := by
          cases q : z.cps.toList with
          | nil => rw [len_cps, q] at hr'; simp at hr'
          | cons c r => exact ⟨c, r, rfl⟩
        refine od_ixSi (j := 0) (c := c) rfl (by omega) (by rw [hc]; rfl) ?_
        walk_at "pr"
        refine od_inSign ?_
        walk_at "pr"
        refine ⟨fun h3 => ?_, fun h3 => ?_⟩
        · walk_at "pr"
          refine NL.ed (nl_lcMap (α := Nat) (js := [1]) (by decide) (wd_str ?_))
          walk_at "pr"
          refine ⟨by show (z.cps.toList.map _).length ≤ 100000; rw [List.length_map, ← len_cps]; omega, z.cps.toList, fun c => .str ⟨#[c]⟩, fun c => .bl (decide (c ∈ signsS.cps.toList)), rfl, fun c _ => ?_, ?_⟩
          · walk_at "pr"
            refine od_inSign ?_
            rfl
          · walk_at "pr"
            have em : z.cps.toList.map (fun c => Dt.bl (decide (c ∈ signsS.cps.toList))) = (z.cps.toList.map fun c => decide (c ∈ signsS.cps.toList)).map Dt.bl := by rw [List.map_map]; rfl
            rw [em]
            refine cd_all ?_
            intro d e
            cases e
            exact congrArg Dt.bl ((nameOk_cons hr' hc).trans (by rw [show decide (c ∈ lettersS.cps.toList) = true from h3, Bool.true_and])).symm
        · intro d e
          cases e
          exact congrArg Dt.bl ((nameOk_cons hr' hc).trans (by rw [show decide (c ∈ lettersS.cps.toList) = false from h3, Bool.false_and])).symm
    · walk_at "pr"
      intro d e
      cases e
      exact congrArg Dt.bl (nameOk_no (by simp at h1; omega)).symm
  · walk_at "pr"
    refine cd_isi ht hk ?_
    walk_at "pr"
    intro d' e
    cases e
    rw [hn]
abbrev s__law_is_name : Stmt := top 9
abbrev N__law_is_name : List Str := ["_law_thing", "_law_small", "_law_sign_here"]
theorem sc__law_is_name : FnScope N__law_is_name ["_law_thing"] (defScope s__law_is_name) := ⟨rfl, rfl, rfl, by decide +kernel, rfl, by decide +kernel, by decide +kernel⟩
theorem sl__law_is_name (d0 : Dt) : slots N__law_is_name.length [d0] = [.dat d0, .un, .un] := rfl
theorem ok__law_is_name {f : Addr} {fd : FuncData} (F : Fun K "_law_is_name" "_law_is_name" s__law_is_name f fd) (T : Txt mg) : FnOk P w K mg base L2.CX0 1 f fd ["_law_thing"] (spName K) := by
  refine F.ok sc__law_is_name (fun vs H Q E h => h.1) (fun cdv A outer s H vs Q E hr h => ?_)
  have hu65 := hr.units65
  refine ⟨_, (pss_cons (ps_if (PW.pt (pw_or (pt_not (pt_val (pe_callB (CallR.wk (r := rIsi) (K := K) call_isi rfl) (by rfl) T.b_isinstance (by decide +kernel) (pa_cons (pv 0) (pa_cons (pe_bltn (v := .ty "str") (u := .type "str") (by rfl) T.b_str (by decide +kernel) rfl) pa_nil))))) (pw_or (pt_cmpR (OpR.wk (r := rEqA) (K := K) (opEq hr.units) rfl) (pe_callB (CallR.wk (r := Pd.rLen) (K := K) callLen rfl) (by rfl) T.b_len PySem.boot_len (pa_cons (pv 0) pa_nil)) pe_int (nomark _)) (pw_or1 (pt_cmpR op_gt (pe_callB (CallR.wk (r := Pd.rLen) (K := K) callLen rfl) (by rfl) T.b_len PySem.boot_len (pa_cons (pv 0) pa_nil)) pe_int (nomark _)))))) (pss_one (ps_ret pe_bl)) pss_nil)
      (pss_cons (ps_set (i := 1) sc__law_is_name.nd rfl (Or.inr rfl) pe_str)
      (pss_one (ps_ret (pe_and (pe_cmpR (OpR.wk (r := rInA) (K := K) (opIn hu65) rfl) (pe_ix (IxR.wk (r := rIx) (K := K) ix_seq rfl) (pv 0) pe_int (fun _ _ => rfl)) (pv 1) (by rfl)) (pe_one (pe_callB (CallR.wk (r := rAll) (K := K) (cr_all rfl) rfl) (by rfl) T.b_all (by decide +kernel) (pa_cons (pe_lc (own := [("_law_sign_here", 2)]) (by rfl) sc__law_is_name.nd (pi_str (pv 0)) (blkOk_by (own := [("_law_sign_here", 2)]) (N := N__law_is_name) (sc := defScope s__law_is_name) (by decide +kernel)) (fun _ _ _ _ _ => (pg_name (i := 2) sc__law_is_name.nd rfl (Or.inl rfl))) (fun _ _ _ _ _ => pts_nil) (fun _ _ _ _ _ => (pe_cmpR (OpR.wk (r := rInA) (K := K) (opIn hu65) rfl) (pv 2) (pe_op (OpR.wk (r := rAddA) (K := K) opAdd rfl) (pv 1) pe_str) (by rfl)))) pa_nil)))))))), ?_⟩
  try dsimp only [cxOf, Cx.nox]
  refine body_of (N := N__law_is_name) (fun Γ ds hK hl hp => ?_) h
  subst hK
  obtain ⟨d, rfl, hd⟩ := hp
  rw [sl__law_is_name]
  rcases hd with ⟨z, rfl, hz⟩ | ⟨t, ht, hk, hn⟩
  · walk_at "pr"
    refine cd_isi (b := true) rfl (by decide +kernel) ?_
    walk_at "pr"
    refine ⟨fun h1 => ?_, fun h1 => ?_⟩
    · walk_at "pr"
      intro d e
      cases e
      refine congrArg Dt.bl (nameOk_no ?_).symm
      have := of_decide_eq_true h1
      omega
    · have h0 : ¬ (z.length : Int) = 0 := of_decide_eq_false h1
      walk_at "pr"
      refine ⟨fun h2 => ?_, fun h2 => ?_⟩
      · walk_at "pr"
        intro d e
        cases e
        exact congrArg Dt.bl (nameOk_no (by simp at h2; omega)).symm
      · have hr' : 1 ≤ (z.length : Int) ∧ (z.length : Int) ≤ 8 := ⟨by omega, by simp at h2; omega⟩
        walk_at "pr"
        obtain ⟨c, r, hc⟩ : ∃ c r, z.cps.toList = c :: r := by
          cases q : z.cps.toList with
          | nil => rw [len_cps, q] at hr'; simp at hr'
          | cons c r => exact ⟨c, r, rfl⟩
        refine od_ixSi (j := 0) (c := c) rfl (by omega) (by rw [hc]; rfl) ?_
        walk_at "pr"
        refine od_inSign ?_
        walk_at "pr"
        refine ⟨fun h3 => ?_, fun h3 => ?_⟩
        · walk_at "pr"
          refine NL.ed (nl_lcMap (α := Nat) (js := [2]) (by decide) (wd_str ?_))
          walk_at "pr"
          refine ⟨by show (z.cps.toList.map _).length ≤ 100000; rw [List.length_map, ← len_cps]; omega, z.cps.toList, fun c => .str ⟨#[c]⟩, fun c => .bl (decide (c ∈ signsS.cps.toList)), rfl, fun c _ => ?_, ?_⟩
          · walk_at "pr"
            refine od_addS (by decide +kernel) ?_
            refine od_inSign ?_
            exact congrArg (fun s : Str => Dt.bl (decide (c ∈ s.cps.toList))) (by decide +kernel : (lettersS ++ ("0123456789" : Str)) = signsS)
          · walk_at "pr"
            have em : z.cps.toList.map (fun c => Dt.bl (decide (c ∈ signsS.cps.toList))) = (z.cps.toList.map fun c => decide (c ∈ signsS.cps.toList)).map Dt.bl := by rw [List.map_map]; rfl
            rw [em]
            refine cd_all ?_
            intro d e
            cases e
            exact congrArg Dt.bl ((nameOk_cons hr' hc).trans (by rw [show decide (c ∈ lettersS.cps.toList) = true from h3, Bool.true_and])).symm
        · intro d e
          cases e
          exact congrArg Dt.bl ((nameOk_cons hr' hc).trans (by rw [show decide (c ∈ lettersS.cps.toList) = false from h3, Bool.false_and])).symm
  · walk_at "pr"
    refine cd_isi ht hk ?_
    walk_at "pr"
    intro d' e
    cases e
    rw [hn]
end
end Pd.K01

set_option Elab.async false
set_option linter.all false
set_option maxRecDepth 100000
set_option maxHeartbeats 4000000
namespace Pd.K01
open PySem PySem.Spec PyProof.Rows L2 Pd
local macro_rules | `(tactic| walk_at "p0") => `(tactic| first
  | with_reducible refine sd_seq ?_ | with_reducible refine sd_ret ?_ | with_reducible refine sd_if ?_ | with_reducible refine sd_asg ?_ | with_reducible refine sd_next ?_ | with_reducible refine sd_parD ?_ | with_reducible refine sd_par3 ?_
  | ((with_reducible refine' ed_var ?hv ?_); (case hv => rfl)) | with_reducible refine ed_int ?_ | with_reducible refine ed_str ?_ | with_reducible refine ed_bl ?_ | with_reducible refine ed_non ?_ | with_reducible refine ed_raw ?_
  | with_reducible refine ed_op ?_ | with_reducible refine ed_cb ?_ | with_reducible refine ra_cons ?_ | with_reducible refine ra_nil ?_ | with_reducible refine ad_cons ?_ | with_reducible refine ad_nil ?_ | with_reducible refine ed_chain ?_
  | with_reducible refine td_test ?_ | with_reducible refine td_B ?_ | with_reducible refine td_not ?_ | with_reducible refine td_and ?_ | with_reducible refine td_or ?_ | with_reducible refine ed_andV ?_ | with_reducible refine ed_orV ?_ | with_reducible refine ed_notV ?_ | with_reducible refine ed_if ?_
  | with_reducible refine ED.rd ?_ | with_reducible refine gd_name ?_ | with_reducible refine op_none ?_ | with_reducible refine op_some ?_
  | with_reducible refine od_addI ?_ | with_reducible refine od_subI ?_ | with_reducible refine od_lt ?_ | with_reducible refine od_le ?_ | with_reducible refine od_gt ?_ | with_reducible refine od_ge ?_ | with_reducible refine od_eqI ?_ | with_reducible refine od_neI ?_ | with_reducible refine od_eqS ?_ | with_reducible refine od_neS ?_
  | with_reducible refine cd_int ?_ | with_reducible refine cd_abs ?_ | with_reducible refine cd_max2 ?_ | with_reducible refine cd_min2 ?_ | with_reducible refine cd_lenScr ?_ | ((with_reducible refine cd_lenS ?hz ?_); (case hz => first | decide | omega)) | with_reducible refine cd_lenL ?_ | with_reducible refine cd_lenT ?_
  | with_reducible refine ⟨_, rfl, ?_⟩
  | dsimp only [List.set_cons_zero, List.set_cons_succ]
  | refine ⟨fun _ => ?_, fun z => Bool.noConfusion z⟩ | refine ⟨fun z => Bool.noConfusion z, fun _ => ?_⟩)
local macro_rules | `(tactic| walk_at "p1") => `(tactic| first
  | ((with_reducible refine' ed_stk ?hd ?hM ?hJ ?hz ?hj ?_); (case hd => rfl); (case hM => assumption); (case hJ => assumption); (case hz => first | exact (rfl : (0 : Int) = ((0 : Nat) : Int)) | exact (rfl : (1 : Int) = ((1 : Nat) : Int)) | exact (rfl : (2 : Int) = ((2 : Nat) : Int))); (case hj => decide); intro x hx; (try have hx0 := hx.1 rfl); (try have hx1 := hx.2 rfl))
  | walk_at "p0"
  | ((with_reducible refine od_mod ?hc ?_); (case hc => first | decide | omega))
  | ((with_reducible refine od_mulI ?hc ?_); (case hc => first | exact .inl ⟨by decide, by decide⟩ | exact .inr ⟨by decide, by decide⟩ | exact .inl ⟨by omega, by omega⟩ | exact .inr ⟨by omega, by omega⟩))
  | ((with_reducible refine od_div ?hc ?_); (case hc => first | exact wide_div (b := 10) (by decide) (by decide) (by decide) (by decide) | exact wide_div (b := 10) (by omega) (by omega) (by decide) (by decide)))
  | ((with_reducible refine od_pow ?hc ?_); (case hc => exact ⟨by decide, by decide, by decide⟩)))
local macro_rules | `(tactic| walk_at "pr") => `(tactic| repeat walk_at "p1")

section
variable {P : Program} {w : World} {K : PySem.W.Frag} {mg : Str → Option Value} {base : Heap}
theorem ed_take {Γ : Cn} {δ : List Sl} {Pq : Dt → Prop} {i : Nat} {d : Dt} {te : TE} (hd : δ[i]? = some (.dat d)) (hS : PreStk Γ.W d)
    (h : ED Γ te δ fun x => ∃ n, x = .int n ∧ 1 ≤ n ∧ n ≤ 1000 ∧ ∀ k : Nat, (k : Int) < n → Pq (.int (k : Int))) : ED Γ (tCall (spTake Γ.W.K) [] L2.E0 (tCons (tVar i) (tCons te tNil))) δ Pq :=
  ed_call (ad_cons (ed_var hd (ad_cons (h.imp fun x ⟨n, e, h1, h2, h3⟩ => by
    subst e
    exact ad_nil ⟨rfl, ⟨d, n, rfl, hS, h1, h2⟩, fun r hr => by
      obtain ⟨k, rfl, hk⟩ := hr _ _ rfl
      exact h3 k hk⟩))))
def preStk1 : Wo → List Dt → Prop := fun W ds => ∃ d, ds = [d] ∧ PreStk W d
/-! ### _law_sign -/
abbrev s__law_sign : Stmt := top 10
abbrev N__law_sign : List Str := ["_law_stock_here", "_law_way", "_law_letters", "_law_others"]
theorem sc__law_sign : FnScope N__law_sign ["_law_stock_here"] (defScope s__law_sign) := ⟨rfl, rfl, rfl, by decide +kernel, rfl, by decide +kernel, by decide +kernel⟩
theorem sl__law_sign (d0 : Dt) : slots N__law_sign.length [d0] = [.dat d0, .un, .un, .un] := rfl
def resSign : List Dt → Dt → Prop := fun _ r => ∃ c : Nat, r = .str ⟨#[c]⟩
abbrev spSign (K : PySem.W.Frag) : Sp := spW K 1 preStk1 resSign
theorem at_some {α : Type} {l : List α} {k n : Nat} (hl : l.length = n) (hk : k < n) : ∃ x, l[k]? = some x := ⟨l[k]'(by omega), List.getElem?_eq_getElem (by omega)⟩
theorem od_ixAny {W : Wo} {Pq : Dt → Prop} {z : Str} {j : Nat} (hz : z.length ≤ 100000) (hj : (j : Int) < (z.length : Int)) (h : ∀ c, Pq (.str ⟨#[c]⟩)) : OD W (rIx W.K) (.str z) (.int (j : Int)) Pq := by
  have hj' : j < z.cps.toList.length := by rw [← len_cps]; omega
  exact od_ixS hz (List.getElem?_eq_getElem hj') (h _)
theorem ok_sign {f : Addr} {fd : FuncData} (F : Fun K "_law_sign" "_law_sign" s__law_sign f fd) (T : Txt mg) (c__law_take : Cl P w K mg base 1 "_law_take" (spTake K)) : FnOk P w K mg base L2.CX0 2 f fd ["_law_stock_here"] (spSign K) := by
  refine F.ok sc__law_sign (fun vs H Q E h => h.1) (fun cdv A outer s H vs Q E hr h => ?_)
  have hu65 := hr.units65
  refine ⟨_, (pss_cons (ps_par (i := 1) (j := 2) (by rfl) sc__law_sign.nd rfl rfl (by decide) rfl rfl (pa_cons (pe_cl c__law_take hr (by decide) (by rfl) (pa_cons (pv 0) (pa_cons pe_int pa_nil))) (pa_cons pe_str pa_nil)) (by rfl))
      (pss_cons (ps_if (pt_cmpR op_lt (pv 1) pe_int (nomark _)) (pss_one (ps_ret (pe_ix (IxR.wk (r := rIx) (K := K) ix_seq rfl) (pv 2) (pe_cl c__law_take hr (by decide) (by rfl) (pa_cons (pv 0) (pa_cons (pe_ix (IxR.wk (r := rIx) (K := K) ix_seq rfl) (pe_lst (pa_cons pe_int (pa_cons pe_int (pa_cons pe_int pa_nil)))) (pv 1) (fun _ _ => rfl)) pa_nil))) (fun _ _ => rfl)))) pss_nil)
      (pss_cons (ps_set (i := 3) sc__law_sign.nd rfl (Or.inl rfl) pe_str)
      (pss_one (ps_ret (pe_ix (IxR.wk (r := rIx) (K := K) ix_seq rfl) (pv 3) (pe_cl c__law_take hr (by decide) (by rfl) (pa_cons (pv 0) (pa_cons (pe_callB (CallR.wk (r := Pd.rLen) (K := K) callLen rfl) (by rfl) T.b_len PySem.boot_len (pa_cons (pv 3) pa_nil)) pa_nil))) (fun _ _ => rfl))))))), ?_⟩
  try dsimp only [cxOf, Cx.nox]
  refine body_of (N := N__law_sign) (fun Γ ds hK hl hp => ?_) h
  subst hK
  obtain ⟨d, rfl, hS⟩ := hp
  rw [sl__law_sign]
  walk_at "pr"
  refine ed_take rfl hS ?_
  walk_at "pr"
  refine ⟨by decide, by decide, fun k hk => ?_⟩
  walk_at "pr"
  refine ⟨fun h1 => ?_, fun h1 => ?_⟩
  · walk_at "pr"
    refine ed_take rfl hS ?_
    have hk3 : k < 3 := by
      have := of_decide_eq_true h1
      omega
    walk_at "pr"
    refine NL.ed (nl_lst ?_)
    walk_at "pr"
    refine ⟨by show 3 ≤ 100000; decide, ?_⟩
    walk_at "pr"
    obtain ⟨m, hm, hb⟩ : ∃ m : Int, ([Dt.int 26, Dt.int 36, Dt.int 36] : List Dt)[k]? = some (.int m) ∧ (1 ≤ m ∧ m ≤ 36) := by
      match k, hk3 with
      | 0, _ => exact ⟨26, rfl, by decide, by decide⟩
      | 1, _ => exact ⟨36, rfl, by decide, by decide⟩
      | 2, _ => exact ⟨36, rfl, by decide, by decide⟩
    refine od_ixL hm ?_
    walk_at "pr"
    refine ⟨by omega, by omega, fun j hj => ?_⟩
    obtain ⟨c, hc⟩ := at_some (l := (Str.ofString "abcdefghijklmnopqrstuvwxyz0123456789").cps.toList) (k := j) (n := 36) (by decide +kernel) (by omega)
    exact od_ixS (by decide +kernel) hc ⟨c, rfl⟩
  · walk_at "pr"
    refine ed_take rfl hS ?_
    walk_at "pr"
    refine ⟨by decide +kernel, by decide +kernel, fun j hj => ?_⟩
    exact od_ixAny (by decide +kernel) hj fun c => ⟨c, rfl⟩
theorem ed_sign {Γ : Cn} {δ : List Sl} {Pq : Dt → Prop} {i : Nat} {d : Dt} (hd : δ[i]? = some (.dat d)) (hS : PreStk Γ.W d) (h : ∀ c : Nat, Pq (.str ⟨#[c]⟩)) : ED Γ (tCall (spSign Γ.W.K) [] L2.E0 (tCons (tVar i) tNil)) δ Pq :=
  ed_call (ad_cons (ed_var hd (ad_nil ⟨rfl, ⟨d, rfl, hS⟩, fun r ⟨c, e⟩ => e ▸ h c⟩)))
def resText (n : Nat) : List Dt → Dt → Prop := fun _ r => ∃ z : Str, r = .str z ∧ z.length ≤ n
/-! ### _law_word -/
abbrev s__law_word : Stmt := top 11
abbrev N__law_word : List Str := ["_law_stock_here", "_law_many", "_law_k"]
theorem sc__law_word : FnScope N__law_word ["_law_stock_here", "_law_many"] (defScope s__law_word) := ⟨rfl, rfl, rfl, by decide +kernel, rfl, by decide +kernel, by decide +kernel⟩
theorem sl__law_word (d0 d1 : Dt) : slots N__law_word.length [d0, d1] = [.dat d0, .dat d1, .un] := rfl
def preWord : Wo → List Dt → Prop := fun W ds => ∃ d, ∃ n : Nat, ds = [d, .int (n : Int)] ∧ PreStk W d ∧ n ≤ 20
abbrev spWord (K : PySem.W.Frag) : Sp := spW K 2 preWord (resText 20)
theorem joined_ok {es : List Dt} {n m : Nat} (hl : es.length = n) (hn : n ≤ m) (hm : m ≤ 1000) (h : ∀ y ∈ es, ∃ c : Nat, y = .str ⟨#[c]⟩) :
    ∃ ys : List Str, Dt.lst es = .lst (ys.map Dt.str) ∧ (ys.map (·.length)).sum + ys.length * (Str.ofString "").length ≤ 1000000 ∧ (Txt.join (Str.ofString "") ys).length ≤ m := by
  obtain ⟨ys, e, hy⟩ := signs_all h
  have h1 := sum_ones hy
  have h2 : ys.length = n := by rw [← hl, e, List.length_map]
  have h3 : (Str.ofString "").length = 0 := by decide +kernel
  have h4 := join_len (sep := Str.ofString "") (ys := ys)
  rw [h1, h3, Nat.mul_zero] at h4
  exact ⟨ys, by rw [e], by rw [h1, h3]; omega, by omega⟩
theorem ok_word {f : Addr} {fd : FuncData} (F : Fun K "_law_word" "_law_word" s__law_word f fd) (T : Txt mg) (c__law_sign : Cl P w K mg base 2 "_law_sign" (spSign K)) : FnOk P w K mg base L2.CX0 3 f fd ["_law_stock_here", "_law_many"] (spWord K) := by
  refine F.ok sc__law_word (fun vs H Q E h => h.1) (fun cdv A outer s H vs Q E hr h => ?_)
  have hu65 := hr.units65
  refine ⟨_, (pss_one (ps_ret (pe_join pe_str (pe_lc (own := [("_law_k", 2)]) (by rfl) sc__law_word.nd (pi_range1 (by rfl) T.b_range (pa_cons (pv 1) pa_nil)) (blkOk_by (own := [("_law_k", 2)]) (N := N__law_word) (sc := defScope s__law_word) (by decide +kernel)) (fun _ _ _ _ _ => (pg_name (i := 2) sc__law_word.nd rfl (Or.inl rfl))) (fun _ _ _ _ _ => pts_nil) (fun _ _ _ _ _ => (pe_cl c__law_sign hr (by decide) (by rfl) (pa_cons (pv 0) pa_nil))))))), ?_⟩
  try dsimp only [cxOf, Cx.nox]
  refine body_of (N := N__law_word) (fun Γ ds hK hl hp => ?_) h
  subst hK
  obtain ⟨d, n, rfl, hS, hn⟩ := hp
  rw [sl__law_word]
  walk_at "pr"
  refine ed_join ?_
  walk_at "pr"
  refine NL.ed (nl_lcP (js := [2]) (by decide) (wd_range1 ?_))
  walk_at "pr"
  refine ⟨by omega, by omega, by rw [upto_len]; omega, fun y => ∃ c : Nat, y = .str ⟨#[c]⟩, fun i x hx => ?_, fun es hes hR => ?_⟩
  · walk_at "pr"
    exact ed_sign rfl hS fun c => ⟨c, rfl⟩
  · obtain ⟨ys, e, h1, h2⟩ := joined_ok (m := 20) hes (by rw [upto_len]; omega) (by decide) hR
    exact ⟨ys, e, h1, _, rfl, h2⟩
/-! ### _law_plain -/
abbrev s__law_plain : Stmt := top 12
abbrev N__law_plain : List Str := ["_law_stock_here", "_law_letters", "_law_more", "_law_k"]
theorem sc__law_plain : FnScope N__law_plain ["_law_stock_here"] (defScope s__law_plain) := ⟨rfl, rfl, rfl, by decide +kernel, rfl, by decide +kernel, by decide +kernel⟩
theorem sl__law_plain (d0 : Dt) : slots N__law_plain.length [d0] = [.dat d0, .un, .un, .un] := rfl
abbrev spPlain (K : PySem.W.Frag) : Sp := spW K 1 preStk1 (resText 20)
theorem ok_plain {f : Addr} {fd : FuncData} (F : Fun K "_law_plain" "_law_plain" s__law_plain f fd) (T : Txt mg) (c__law_take : Cl P w K mg base 1 "_law_take" (spTake K)) : FnOk P w K mg base L2.CX0 2 f fd ["_law_stock_here"] (spPlain K) := by
  refine F.ok sc__law_plain (fun vs H Q E h => h.1) (fun cdv A outer s H vs Q E hr h => ?_)
  have hu65 := hr.units65
  refine ⟨_, (pss_cons (ps_asg (pe_tup (pa_cons pe_str (pa_cons (pe_ix (IxR.wk (r := rIx) (K := K) ix_seq rfl) (pe_lst (pa_cons pe_int (pa_cons pe_int (pa_cons pe_int (pa_cons pe_int (pa_cons pe_int (pa_cons pe_int pa_nil))))))) (pe_cl c__law_take hr (by decide) (by rfl) (pa_cons (pv 0) (pa_cons pe_int pa_nil))) (fun _ _ => rfl)) pa_nil))) (pg_tupK (K := K) rfl (pgs_cons (pg_name (i := 1) sc__law_plain.nd rfl (Or.inr rfl)) (pgs_cons (pg_name (i := 2) sc__law_plain.nd rfl (Or.inl rfl)) pgs_nil)) rfl))
      (pss_one (ps_ret (pe_op (OpR.wk (r := rAddA) (K := K) opAdd rfl) (pe_ix (IxR.wk (r := rIx) (K := K) ix_seq rfl) (pv 1) (pe_cl c__law_take hr (by decide) (by rfl) (pa_cons (pv 0) (pa_cons pe_int pa_nil))) (fun _ _ => rfl)) (pe_join pe_str (pe_lc (own := [("_law_k", 3)]) (by rfl) sc__law_plain.nd (pi_range1 (by rfl) T.b_range (pa_cons (pv 2) pa_nil)) (blkOk_by (own := [("_law_k", 3)]) (N := N__law_plain) (sc := defScope s__law_plain) (by decide +kernel)) (fun _ _ _ _ _ => (pg_name (i := 3) sc__law_plain.nd rfl (Or.inl rfl))) (fun _ _ _ _ _ => pts_nil) (fun _ _ _ _ _ => (pe_ix (IxR.wk (r := rIx) (K := K) ix_seq rfl) (pv 1) (pe_cl c__law_take hr (by decide) (by rfl) (pa_cons (pv 0) (pa_cons pe_int pa_nil))) (fun _ _ => rfl))))))))), ?_⟩
  try dsimp only [cxOf, Cx.nox]
  refine body_of (N := N__law_plain) (fun Γ ds hK hl hp => ?_) h
  subst hK
  obtain ⟨d, rfl, hS⟩ := hp
  rw [sl__law_plain]
  refine sd_seq (sd_asgG (js := [1] ++ ([2] ++ [])) (ed_tup ?_))
  walk_at "pr"
  refine NL.ed (nl_lst ?_)
  walk_at "pr"
  refine ⟨by show 6 ≤ 100000; decide, ?_⟩
  walk_at "pr"
  refine ed_take rfl hS ?_
  walk_at "pr"
  refine ⟨by decide, by decide, fun k hk => ?_⟩
  obtain ⟨m, hm, hb⟩ : ∃ m : Nat, ([Dt.int 0, Dt.int 1, Dt.int 6, Dt.int 7, Dt.int 7, Dt.int 3] : List Dt)[k]? = some (.int (m : Int)) ∧ m ≤ 7 := by
    have hk' : k < 6 := by omega
    match k, hk' with
    | 0, _ => exact ⟨0, rfl, by decide⟩
    | 1, _ => exact ⟨1, rfl, by decide⟩
    | 2, _ => exact ⟨6, rfl, by decide⟩
    | 3, _ => exact ⟨7, rfl, by decide⟩
    | 4, _ => exact ⟨7, rfl, by decide⟩
    | 5, _ => exact ⟨3, rfl, by decide⟩
  refine od_ixL hm ?_
  walk_at "pr"
  refine ⟨by show 2 ≤ 100000; decide, ?_⟩
  refine gd_tup ⟨_, rfl, rfl, gds_cons (gd_name (gds_cons (gd_name (gds_nil ?_))))⟩
  walk_at "pr"
  refine ed_take rfl hS ?_
  walk_at "pr"
  refine ⟨by decide, by decide, fun j hj => ?_⟩
  obtain ⟨c, hc⟩ := at_some (l := (Str.ofString "abcdefghijklmnopqrstuvwxyz0123456789").cps.toList) (k := j) (n := 36) (by decide +kernel) (by omega)
  refine od_ixS (by decide +kernel) hc ?_
  walk_at "pr"
  refine ed_join ?_
  walk_at "pr"
  refine NL.ed (nl_lcP (js := [3]) (by decide) (wd_range1 ?_))
  walk_at "pr"
  refine ⟨by omega, by omega, by rw [upto_len]; omega, fun y => ∃ c : Nat, y = .str ⟨#[c]⟩, fun i x hx => ?_, fun es hes hR => ?_⟩
  · walk_at "pr"
    refine ed_take rfl hS ?_
    walk_at "pr"
    refine ⟨by decide, by decide, fun j hj => ?_⟩
    obtain ⟨c, hc⟩ := at_some (l := (Str.ofString "abcdefghijklmnopqrstuvwxyz0123456789").cps.toList) (k := j) (n := 36) (by decide +kernel) (by omega)
    exact od_ixS (by decide +kernel) hc ⟨c, rfl⟩
  · obtain ⟨ys, e, h1, h2⟩ := joined_ok (m := 7) hes (by rw [upto_len]; omega) (by decide) hR
    refine ⟨ys, e, h1, ?_⟩
    refine od_addS (by show 1 + _ ≤ 100000; omega) ⟨_, rfl, ?_⟩
    rw [strLen_append]
    show 1 + _ ≤ 20
    omega
/-! ### _law_bent -/
abbrev s__law_bent : Stmt := top 13
abbrev N__law_bent : List Str := ["_law_stock_here", "_law_word_here", "_law_way", "_law_at", "_law_sign_here"]
theorem sc__law_bent : FnScope N__law_bent ["_law_stock_here", "_law_word_here"] (defScope s__law_bent) := ⟨rfl, rfl, rfl, by decide +kernel, rfl, by decide +kernel, by decide +kernel⟩
theorem sl__law_bent (d0 d1 : Dt) : slots N__law_bent.length [d0, d1] = [.dat d0, .dat d1, .un, .un, .un] := rfl
def preBent : Wo → List Dt → Prop := fun W ds => ∃ d, ∃ z : Str, ds = [d, .str z] ∧ PreStk W d ∧ z.length ≤ 20
abbrev spBent (K : PySem.W.Frag) : Sp := spW K 2 preBent (resText 100)
theorem cutS_len (z : Str) (lo hi : Option Int) : (cutS z lo hi).length ≤ z.length := by
  rw [len_cps, len_cps]
  show (List.take _ (List.drop _ z.cps.toList)).length ≤ _
  rw [List.length_take, List.length_drop]
  omega
theorem ok_bent {f : Addr} {fd : FuncData} (F : Fun K "_law_bent" "_law_bent" s__law_bent f fd) (T : Txt mg) (c__law_take : Cl P w K mg base 1 "_law_take" (spTake K)) (c__law_sign : Cl P w K mg base 2 "_law_sign" (spSign K)) : FnOk P w K mg base L2.CX0 3 f fd ["_law_stock_here", "_law_word_here"] (spBent K) := by
  refine F.ok sc__law_bent (fun vs H Q E h => h.1) (fun cdv A outer s H vs Q E hr h => ?_)
  have hu65 := hr.units65
  refine ⟨_, (pss_cons (ps_par3 (i := 2) (j := 3) (l := 4) (by rfl) sc__law_bent.nd rfl rfl rfl (by decide) (by decide) (by decide) rfl rfl rfl (pa_cons (pe_cl c__law_take hr (by decide) (by rfl) (pa_cons (pv 0) (pa_cons pe_int pa_nil))) (pa_cons (pe_cl c__law_take hr (by decide) (by rfl) (pa_cons (pv 0) (pa_cons (pe_op (OpR.wk (r := rAddA) (K := K) opAdd rfl) (pe_callB (CallR.wk (r := Pd.rLen) (K := K) callLen rfl) (by rfl) T.b_len PySem.boot_len (pa_cons (pv 1) pa_nil)) pe_int) pa_nil))) (pa_cons (pe_cl c__law_sign hr (by decide) (by rfl) (pa_cons (pv 0) pa_nil)) pa_nil))) (by rfl))
      (pss_one (ps_ret (pe_op (OpR.wk (r := rAddA) (K := K) opAdd rfl) (pe_op (OpR.wk (r := rAddA) (K := K) opAdd rfl) (pe_slice (slAnyK (K := K) rfl) (pv 1) po_none (po_some (pv 3))) (pe_ix (IxR.wk (r := rIx) (K := K) ix_seq rfl) (pe_lst (pa_cons (pv 4) (pa_cons pe_str (pa_cons (pv 4) pa_nil)))) (pv 2) (fun _ _ => rfl))) (pe_slice (slAnyK (K := K) rfl) (pv 1) (po_some (pe_op (OpR.wk (r := rAddA) (K := K) opAdd rfl) (pv 3) (pe_ix (IxR.wk (r := rIx) (K := K) ix_seq rfl) (pe_lst (pa_cons pe_int (pa_cons pe_int (pa_cons pe_int pa_nil)))) (pv 2) (fun _ _ => rfl)))) po_none))))), ?_⟩
  try dsimp only [cxOf, Cx.nox]
  refine body_of (N := N__law_bent) (fun Γ ds hK hl hp => ?_) h
  subst hK
  obtain ⟨d, z, rfl, hS, hz⟩ := hp
  rw [sl__law_bent]
  walk_at "pr"
  refine ed_take rfl hS ?_
  walk_at "pr"
  refine ⟨by decide, by decide, fun k hk => ?_⟩
  refine ed_take rfl hS ?_
  walk_at "pr"
  refine ⟨by omega, by omega, fun j hj => ?_⟩
  refine ed_sign rfl hS fun c => ?_
  walk_at "pr"
  refine ed_sl ?_
  walk_at "pr"
  refine .inr (.inl ⟨z, rfl, by omega, ?_⟩)
  have e1 := cutS_len z none (some (j : Int))
  walk_at "pr"
  refine NL.ed (nl_lst ?_)
  walk_at "pr"
  refine ⟨by show 3 ≤ 100000; decide, ?_⟩
  walk_at "pr"
  obtain ⟨y, hy, hyl⟩ : ∃ y : Str, ([Dt.str ⟨#[c]⟩, Dt.str (Str.ofString ""), Dt.str ⟨#[c]⟩] : List Dt)[k]? = some (.str y) ∧ y.length ≤ 1 := by
    have hk' : k < 3 := by omega
    match k, hk' with
    | 0, _ => exact ⟨_, rfl, Nat.le_refl 1⟩
    | 1, _ => exact ⟨_, rfl, by decide +kernel⟩
    | 2, _ => exact ⟨_, rfl, Nat.le_refl 1⟩
  refine od_ixL hy (od_addS (by omega) ?_)
  refine ED.rd (ed_sl ?_)
  walk_at "pr"
  refine NL.ed (nl_lst ?_)
  walk_at "pr"
  refine ⟨by show 3 ≤ 100000; decide, ?_⟩
  walk_at "pr"
  obtain ⟨m, hm⟩ : ∃ m : Int, ([Dt.int 0, Dt.int 1, Dt.int 1] : List Dt)[k]? = some (.int m) := by
    have hk' : k < 3 := by omega
    match k, hk' with
    | 0, _ => exact ⟨_, rfl⟩
    | 1, _ => exact ⟨_, rfl⟩
    | 2, _ => exact ⟨_, rfl⟩
  refine od_ixL hm ?_
  walk_at "pr"
  refine .inr (.inl ⟨z, rfl, by omega, ?_⟩)
  have e2 := cutS_len z (some ((j : Int) + m)) none
  have e3 := strLen_append (cutS z none (some (j : Int))) y
  refine od_addS (by rw [e3]; omega) ⟨_, rfl, ?_⟩
  rw [strLen_append, e3]
  omega
end
end Pd.K01

set_option Elab.async false
set_option linter.all false
set_option maxRecDepth 100000
set_option maxHeartbeats 4000000
namespace Pd.K01
open PySem PySem.Spec PyProof.Rows L2 Pd
local macro_rules | `(tactic| walk_at "p0") => `(tactic| first
  | with_reducible refine sd_seq ?_ | with_reducible refine sd_ret ?_ | with_reducible refine sd_if ?_ | with_reducible refine sd_asg ?_ | with_reducible refine sd_next ?_ | with_reducible refine sd_parD ?_ | with_reducible refine sd_par3 ?_
  | ((with_reducible refine' ed_var ?hv ?_); (case hv => rfl)) | with_reducible refine ed_int ?_ | with_reducible refine ed_str ?_ | with_reducible refine ed_bl ?_ | with_reducible refine ed_non ?_ | with_reducible refine ed_raw ?_
  | with_reducible refine ed_op ?_ | with_reducible refine ed_cb ?_ | with_reducible refine ra_cons ?_ | with_reducible refine ra_nil ?_ | with_reducible refine ad_cons ?_ | with_reducible refine ad_nil ?_ | with_reducible refine ed_chain ?_
  | with_reducible refine td_test ?_ | with_reducible refine td_B ?_ | with_reducible refine td_not ?_ | with_reducible refine td_and ?_ | with_reducible refine td_or ?_ | with_reducible refine ed_andV ?_ | with_reducible refine ed_orV ?_ | with_reducible refine ed_notV ?_ | with_reducible refine ed_if ?_
  | with_reducible refine ED.rd ?_ | with_reducible refine gd_name ?_ | with_reducible refine op_none ?_ | with_reducible refine op_some ?_
  | with_reducible refine od_addI ?_ | with_reducible refine od_subI ?_ | with_reducible refine od_lt ?_ | with_reducible refine od_le ?_ | with_reducible refine od_gt ?_ | with_reducible refine od_ge ?_ | with_reducible refine od_eqI ?_ | with_reducible refine od_neI ?_ | with_reducible refine od_eqS ?_ | with_reducible refine od_neS ?_
  | with_reducible refine cd_int ?_ | with_reducible refine cd_abs ?_ | with_reducible refine cd_max2 ?_ | with_reducible refine cd_min2 ?_ | with_reducible refine cd_lenScr ?_ | ((with_reducible refine cd_lenS ?hz ?_); (case hz => first | decide | omega)) | with_reducible refine cd_lenL ?_ | with_reducible refine cd_lenT ?_
  | with_reducible refine ⟨_, rfl, ?_⟩
  | dsimp only [List.set_cons_zero, List.set_cons_succ]
  | refine ⟨fun _ => ?_, fun z => Bool.noConfusion z⟩ | refine ⟨fun z => Bool.noConfusion z, fun _ => ?_⟩)
local macro_rules | `(tactic| walk_at "p1") => `(tactic| first
  | ((with_reducible refine' ed_stk ?hd ?hM ?hJ ?hz ?hj ?_); (case hd => rfl); (case hM => assumption); (case hJ => assumption); (case hz => first | exact (rfl : (0 : Int) = ((0 : Nat) : Int)) | exact (rfl : (1 : Int) = ((1 : Nat) : Int)) | exact (rfl : (2 : Int) = ((2 : Nat) : Int))); (case hj => decide); intro x hx; (try have hx0 := hx.1 rfl); (try have hx1 := hx.2 rfl))
  | walk_at "p0"
  | ((with_reducible refine od_mod ?hc ?_); (case hc => first | decide | omega))
  | ((with_reducible refine od_mulI ?hc ?_); (case hc => first | exact .inl ⟨by decide, by decide⟩ | exact .inr ⟨by decide, by decide⟩ | exact .inl ⟨by omega, by omega⟩ | exact .inr ⟨by omega, by omega⟩))
  | ((with_reducible refine od_div ?hc ?_); (case hc => first | exact wide_div (b := 10) (by decide) (by decide) (by decide) (by decide) | exact wide_div (b := 10) (by omega) (by omega) (by decide) (by decide)))
  | ((with_reducible refine od_pow ?hc ?_); (case hc => exact ⟨by decide, by decide, by decide⟩)))
local macro_rules | `(tactic| walk_at "pr") => `(tactic| repeat walk_at "p1")

local macro_rules | `(tactic| walk_at "pm") => `(tactic| repeat first
  | walk_at "p1" | with_reducible refine ed_tup ?_ | with_reducible refine NL.ed (nl_lst ?_) | with_reducible refine ed_neg ?_ | with_reducible refine ed_disp1 ?_ | with_reducible refine ed_dnew ?_ | refine ⟨by simp only [List.length_cons, List.length_nil]; decide, ?_⟩)
/-! ### the law -/
def menuD (z : Str) : List Dt := [.non, .bl true, .bl false, .int 0, .int 1, .int (-7), .int (10 ^ (39 : Int).toNat), .tup [.str z], .lst [.str z], .dct [(.inr z, .int 1)], .tup [], .lst [], .dct []] ++ [.lst [.lst [.str z]], .tup [.str z, .str z]]
theorem menu_thing {z : Str} {k : Nat} (hk : k < 15) : ∃ d, (menuD z)[k]? = some d ∧ Thing d := by
  match k, hk with
  | 0, _ => exact ⟨_, rfl, .inr ⟨_, rfl, by decide +kernel, rfl⟩⟩
  | 1, _ => exact ⟨_, rfl, .inr ⟨_, rfl, by decide +kernel, rfl⟩⟩
  | 2, _ => exact ⟨_, rfl, .inr ⟨_, rfl, by decide +kernel, rfl⟩⟩
  | 3, _ => exact ⟨_, rfl, .inr ⟨_, rfl, by decide +kernel, rfl⟩⟩
  | 4, _ => exact ⟨_, rfl, .inr ⟨_, rfl, by decide +kernel, rfl⟩⟩
  | 5, _ => exact ⟨_, rfl, .inr ⟨_, rfl, by decide +kernel, rfl⟩⟩
  | 6, _ => exact ⟨_, rfl, .inr ⟨_, rfl, by decide +kernel, rfl⟩⟩
  | 7, _ => exact ⟨_, rfl, .inr ⟨_, rfl, by decide +kernel, rfl⟩⟩
  | 8, _ => exact ⟨_, rfl, .inr ⟨_, rfl, by decide +kernel, rfl⟩⟩
  | 9, _ => exact ⟨_, rfl, .inr ⟨_, rfl, by decide +kernel, rfl⟩⟩
  | 10, _ => exact ⟨_, rfl, .inr ⟨_, rfl, by decide +kernel, rfl⟩⟩
  | 11, _ => exact ⟨_, rfl, .inr ⟨_, rfl, by decide +kernel, rfl⟩⟩
  | 12, _ => exact ⟨_, rfl, .inr ⟨_, rfl, by decide +kernel, rfl⟩⟩
  | 13, _ => exact ⟨_, rfl, .inr ⟨_, rfl, by decide +kernel, rfl⟩⟩
  | 14, _ => exact ⟨_, rfl, .inr ⟨_, rfl, by decide +kernel, rfl⟩⟩
theorem two_shown (b : Bool) : (PyData.list [.bool b, .bool b]).shown.length ≤ 10000000 := by
  cases b <;> decide +kernel
theorem rng_ok (n : Nat) : -(2 ^ 62) ≤ (if (if (6 : Int) < (n : Int) then (6 : Int) else (n : Int)) > 3 then (if (6 : Int) < (n : Int) then (6 : Int) else (n : Int)) else 3) ∧ (if (if (6 : Int) < (n : Int) then (6 : Int) else (n : Int)) > 3 then (if (6 : Int) < (n : Int) then (6 : Int) else (n : Int)) else 3) ≤ 6 ∧ 0 ≤ (if (if (6 : Int) < (n : Int) then (6 : Int) else (n : Int)) > 3 then (if (6 : Int) < (n : Int) then (6 : Int) else (n : Int)) else 3) := by
  split <;> split <;> omega
section
variable {P : Program} {w : World} {K : PySem.W.Frag} {mg : Str → Option Value} {base : Heap}
abbrev s_law : Stmt := top 14
abbrev N_law : List Str := ["_law_script", "_law_k", "_law_stock_here", "_law_things", "_law_turn", "_law_word_here", "_law_menu", "_law_thing", "_law_seen"]
theorem sc_law : FnScope N_law ["_law_script"] (defScope s_law) := ⟨rfl, rfl, rfl, by decide +kernel, rfl, by decide +kernel, by decide +kernel⟩
theorem sl_law (d0 : Dt) : slots N_law.length [d0] = [.dat d0, .un, .un, .un, .un, .un, .un, .un, .un] := rfl
def preLaw : Wo → List Dt → Prop := fun W ds => W.M = none ∧ ∃ ns : List Int, ds = [.scr ns] ∧ ns.length ≤ 63
def resTrue : List Dt → Dt → Prop := fun _ r => r = .bl true
abbrev spLaw (K : PySem.W.Frag) : Sp := spW K 1 preLaw resTrue
theorem ok_law {f : Addr} {fd : FuncData} (F : Fun K "law" "law" s_law f fd) (T : Txt mg) (c__law_take : Cl P w K mg base 1 "_law_take" (spTake K)) (c__law_cell : Cl P w K mg base 1 "_law_cell" (spCell K)) (c__law_stock : Cl P w K mg base 1 "_law_stock" (spStock K))
    (c__law_plain : Cl P w K mg base 2 "_law_plain" (spPlain K)) (c__law_bent : Cl P w K mg base 3 "_law_bent" (spBent K)) (c__law_word : Cl P w K mg base 3 "_law_word" (spWord K))
    (c_is_name : Cl P w K mg base 1 "is_name" (spName K)) (ck_is_name : ClK P w K mg base 1 "is_name" ["value"] (spName K)) (c__law_is_name : Cl P w K mg base 1 "_law_is_name" (spName K)) :
    Pg.FnG P w K mg base 5 f fd ["_law_script"] (spLaw K) := by
  refine Pg.fnG_of F sc_law (fun vs H Q E h => h.1) (fun cdv A outer s H vs Q E hr hgd h => ?_)
  have hu65 := hr.units65
  refine ⟨_, (pss_cons (ps_for PassesOwn.never rfl (pi_range1 (by rfl) T.b_range (pa_cons (pe_callB (callMax2 rfl) (by rfl) T.b_max (by decide +kernel) (pa_cons pe_int (pa_cons (pe_callB (callMin2 rfl) (by rfl) T.b_min (by decide +kernel) (pa_cons (pe_callB (CallR.wk (r := Pd.rLen) (K := K) callLen rfl) (by rfl) T.b_len PySem.boot_len (pa_cons (pv 0) pa_nil)) (pa_cons pe_int pa_nil))) pa_nil))) pa_nil)) (pg_name (i := 1) sc_law.nd rfl (Or.inl rfl)) (pss_cons (ps_par (i := 2) (j := 3) (by rfl) sc_law.nd rfl rfl (by decide) rfl rfl (pa_cons (pe_cl c__law_stock hr (by decide) (by rfl) (pa_cons (pe_cl c__law_cell hr (by decide) (by rfl) (pa_cons (pv 0) (pa_cons (pv 1) pa_nil))) pa_nil)) (pa_cons (pe_lst pa_nil) pa_nil)) (by rfl))
      (pss_cons (ps_for PassesOwn.never rfl (pi_range1 (by rfl) T.b_range (pa_cons pe_int pa_nil)) (pg_name (i := 4) sc_law.nd rfl (Or.inl rfl)) (pss_cons (ps_set (i := 5) sc_law.nd rfl (Or.inl rfl) (pe_cl c__law_plain hr (by decide) (by rfl) (pa_cons (pv 2) pa_nil)))
      (pss_cons (ps_set (i := 6) sc_law.nd rfl (Or.inl rfl) (pe_lst (pa_cons pe_non (pa_cons pe_bl (pa_cons pe_bl (pa_cons pe_int (pa_cons pe_int (pa_cons (pe_un un_neg pe_int) (pa_cons (pe_op op_pow pe_int pe_int) (pa_cons (pe_tup (pa_cons (pv 5) pa_nil)) (pa_cons (pe_lst (pa_cons (pv 5) pa_nil)) (pa_cons (pe_disp (pps_cons (pv 5) pe_int pps_nil) (by rfl) (by rfl) (fun z => by cases z) (by decide)) (pa_cons (pe_tup pa_nil) (pa_cons (pe_lst pa_nil) (pa_cons pe_dnewK pa_nil)))))))))))))))
      (pss_cons (ps_set (i := 6) sc_law.nd rfl (Or.inl rfl) (pe_op (OpR.wk (r := rAddA) (K := K) opAdd rfl) (pv 6) (pe_lst (pa_cons (pe_lst (pa_cons (pe_lst (pa_cons (pv 5) pa_nil)) pa_nil)) (pa_cons (pe_tup (pa_cons (pv 5) (pa_cons (pv 5) pa_nil))) pa_nil)))))
      (pss_cons (ps_set (i := 3) sc_law.nd rfl (Or.inl rfl) (pe_op (OpR.wk (r := rAddA) (K := K) opAdd rfl) (pv 3) (pe_lst (pa_cons (pv 5) (pa_cons (pe_cl c__law_bent hr (by decide) (by rfl) (pa_cons (pv 2) (pa_cons (pv 5) pa_nil))) (pa_cons (pe_cl c__law_word hr (by decide) (by rfl) (pa_cons (pv 2) (pa_cons (pe_cl c__law_take hr (by decide) (by rfl) (pa_cons (pv 2) (pa_cons pe_int pa_nil))) pa_nil))) pa_nil))))))
      (pss_one (ps_expr (pe_bm PySem.F.plainAttrs_list PySem.F.slot_list_append PySem.F.type_list_append mt_append (pv 3) (pa_cons (pe_ix (IxR.wk (r := rIx) (K := K) ix_seq rfl) (pv 6) (pe_cl c__law_take hr (by decide) (by rfl) (pa_cons (pv 2) (pa_cons pe_int pa_nil))) (fun _ _ => rfl)) pa_nil)))))))))
      (pss_one (ps_for PassesOwn.never rfl (pi_listK (K := K) (pe_op (OpR.wk (r := rAddA) (K := K) opAdd rfl) (pv 3) (pe_revL (pv 3))) rfl) (pg_name (i := 7) sc_law.nd rfl (Or.inl rfl)) (pss_one (ps_if (pt_cmpR (OpR.wk (r := rNeA) (K := K) (opNe hr.units) rfl) (pe_callB (CallR.wk (r := Pg.rRepr) (K := K) (Pg.call_repr hgd hr.units) rfl) (by rfl) T.b_repr (by decide +kernel) (pa_cons (pe_lst (pa_cons (pe_cl c_is_name hr (by decide) (by rfl) (pa_cons (pv 7) pa_nil)) (pa_cons (pe_clK ck_is_name hr (by decide) (by rfl) (pk_cons (pv 7) pk_nil)) pa_nil))) pa_nil)) (pe_callB (CallR.wk (r := Pg.rRepr) (K := K) (Pg.call_repr hgd hr.units) rfl) (by rfl) T.b_repr (by decide +kernel) (pa_cons (pe_op opMul (pe_lst (pa_cons (pe_cl c__law_is_name hr (by decide) (by rfl) (pa_cons (pv 7) pa_nil)) pa_nil)) pe_int) pa_nil)) (nomark _)) (pss_one (ps_ret pe_bl)) pss_nil)))))))
      (pss_cons (ps_setLc (i := 8) (own := [("_law_word_here", 5)]) (by rfl) sc_law.nd rfl rfl (sw_true rfl rfl rfl (by decide +kernel)) (pi_listK (K := K) (pe_lst (pa_cons pe_str (pa_cons pe_str (pa_cons pe_str (pa_cons pe_str (pa_cons pe_str (pa_cons pe_str (pa_cons pe_str (pa_cons pe_str (pa_cons pe_str pa_nil)))))))))) rfl) (blkOk_by (own := [("_law_word_here", 5)]) (N := N_law) (sc := defScope s_law) (by decide +kernel)) (fun _ _ _ _ _ => (pg_name (i := 5) sc_law.nd rfl (Or.inl rfl))) (fun _ _ _ _ _ => pts_nil) (fun _ _ _ _ _ => (pe_cl c_is_name hr (by decide) (by rfl) (pa_cons (pv 5) pa_nil))))
      (pss_one (ps_ret (pe_cmpR (OpR.wk (r := rEqA) (K := K) (opEq hr.units) rfl) (pe_callB (CallR.wk (r := Pg.rRepr) (K := K) (Pg.call_repr hgd hr.units) rfl) (by rfl) T.b_repr (by decide +kernel) (pa_cons (pv 8) pa_nil)) (pe_callB (CallR.wk (r := Pg.rRepr) (K := K) (Pg.call_repr hgd hr.units) rfl) (by rfl) T.b_repr (by decide +kernel) (pa_cons (pe_op (OpR.wk (r := rAddA) (K := K) opAdd rfl) (pe_op opMul (pe_lst (pa_cons pe_bl pa_nil)) pe_int) (pe_op opMul (pe_lst (pa_cons pe_bl pa_nil)) pe_int)) pa_nil)) (nomark _)))))), ?_⟩
  try dsimp only [cxOf, Cx.nox]
  refine body_of (N := N_law) (fun Γ ds hK hl hp => ?_) h
  subst hK
  obtain ⟨hm, ns, rfl, hn⟩ := hp
  rw [sl_law]
  refine sd_seq (sd_for (js := [1]) (wd_range1 ?_))
  walk_at "pr"
  have hrg := rng_ok ns.length
  refine ⟨hrg.1, by omega, ?_⟩
  refine ⟨fun i δ' => ∃ a1 a2 a3 a4 a5 a6 a7 a8 : Sl, δ' = [.dat (.scr ns), a1, a2, a3, a4, a5, a6, a7, a8], ⟨_, _, _, _, _, _, _, _, rfl⟩, ?_, ?_⟩
  · rintro i x δ' hx ⟨a1, a2, a3, a4, a5, a6, a7, a8, rfl⟩
    obtain ⟨hi, rfl⟩ := upto_get hx
    refine gd_name (sd_seq (sd_par (i := 2) (j := 3) (by decide) (vd_nl (nl_call ?_))))
    walk_at "pr"
    refine ed_call ?_
    walk_at "pr"
    refine ⟨rfl, ⟨ns, i, by rw [Int.zero_add], by omega⟩, ?_⟩
    rintro _ ⟨z, rfl⟩
    walk_at "pr"
    refine ⟨rfl, ⟨z, rfl⟩, ?_⟩
    rintro es ⟨ms, hml, rfl, hmC⟩
    refine vd_nl (nl_lst (ad_nil ⟨by decide, ?_⟩))
    refine sd_world (i := 2) (SJ StC 3) hm rfl (fun G xs r => ⟨ms, hml, by rw [drall_int r], hmC⟩) ?_
    intro Γ' a hK' hM' hJ'
    rw [← hK']
    have hS : PreStk Γ'.W (.raw (.ref a)) := ⟨a, rfl, hM', hJ'⟩
    clear hm
    refine sd_seq (sd_for (js := [4]) (wd_range1 ?_))
    walk_at "pr"
    refine ⟨by decide, by decide, ?_⟩
    refine ⟨fun i' δ' => ∃ (ts : List Dt) (b4 b5 b6 b7 b8 : Sl), δ' = [.dat (.scr ns), .dat (.int (0 + (i : Int))), .dat (.raw (.ref a)), .mu ts, b4, b5, b6, b7, b8] ∧ ts.length ≤ 4 * i' ∧ ∀ d ∈ ts, Thing d, ⟨[], _, _, _, _, _, rfl, Nat.le_refl _, fun d hd => absurd hd List.not_mem_nil⟩, ?_, ?_⟩
    · rintro i' x δ' hx' ⟨ts, b4, b5, b6, b7, b8, rfl, htl, hT⟩
      obtain ⟨hi', rfl⟩ := upto_get hx'
      have hi4 : i' < 4 := hi'
      walk_at "pr"
      refine ed_call ?_
      walk_at "pr"
      refine ⟨rfl, ⟨_, rfl, hS⟩, ?_⟩
      rintro _ ⟨z, rfl, hz⟩
      walk_at "pm"
      refine od_addL (by show 15 ≤ 100000; decide) ?_
      show SD Γ' _ [.dat (.scr ns), .dat (.int (0 + (i : Int))), .dat (.raw (.ref a)), .mu ts, .dat (.int (0 + (i' : Int))), .dat (.str z), .dat (.lst (menuD z)), b7, b8] _
      refine sd_seq (sd_asgV (vd_nl (nl_addL (rd_mut rfl (ED.rd (NL.ed (nl_lst ?_)))))))
      walk_at "pr"
      refine ed_call ?_
      walk_at "pr"
      refine ⟨rfl, ⟨_, z, rfl, hS, hz⟩, ?_⟩
      rintro _ ⟨y, rfl, hy⟩
      walk_at "pr"
      refine ed_call ?_
      walk_at "pr"
      refine ed_take rfl hS ?_
      walk_at "pr"
      refine ⟨by decide, by decide, fun k hk => ?_⟩
      walk_at "pr"
      refine ⟨rfl, ⟨_, k, rfl, hS, by omega⟩, ?_⟩
      rintro _ ⟨x, rfl, hx'⟩
      walk_at "pr"
      refine ⟨by simp only [List.length_cons, List.length_nil]; decide, ts, _, rfl, rfl, by simp only [List.length_cons, List.length_nil]; omega, ?_⟩
      have hT' : ∀ d ∈ ts ++ [Dt.str z, Dt.str y, Dt.str x], Thing d := by
        intro d hd
        rcases List.mem_append.mp hd with hd | hd
        · exact hT d hd
        · simp only [List.mem_cons, List.not_mem_nil, or_false] at hd
          rcases hd with rfl | rfl | rfl
          · exact .inl ⟨_, rfl, by omega⟩
          · exact .inl ⟨_, rfl, by omega⟩
          · exact .inl ⟨_, rfl, by omega⟩
      have hl' : (ts ++ [Dt.str z, Dt.str y, Dt.str x]).length = ts.length + 3 := by rw [List.length_append]; rfl
      generalize ts ++ [Dt.str z, Dt.str y, Dt.str x] = ts' at hT' hl' ⊢
      refine sd_app (i := 3) rfl (by omega) ?_
      walk_at "pr"
      refine ed_take rfl hS ?_
      walk_at "pr"
      refine ⟨by decide, by decide, fun k hk => ?_⟩
      obtain ⟨d, hd, hdT⟩ := menu_thing (z := z) (k := k) (by omega)
      refine od_ixL hd ?_
      refine ⟨ts' ++ [d], _, _, _, _, _, rfl, ?_, fun e he => ?_⟩
      · rw [List.length_append, hl']
        show ts.length + 3 + 1 ≤ 4 * (i' + 1)
        omega
      · rcases List.mem_append.mp he with he | he
        · exact hT' e he
        · rw [List.mem_singleton.mp he]
          exact hdT
    · rintro δ' ⟨ts, b4, b5, b6, b7, b8, rfl, htl, hT⟩
      have htl : ts.length ≤ 16 := htl
      refine sd_for (js := [7]) (wd_list (ed_op (rd_mut rfl (ED.rd (ed_rev (rd_mut rfl ⟨_, rfl, ?_⟩))))))
      refine od_addL (by rw [List.length_reverse]; omega) ⟨_, rfl, ?_⟩
      have hT2 : ∀ d ∈ ts ++ ts.reverse, Thing d := by
        intro d hd
        rcases List.mem_append.mp hd with hd | hd
        · exact hT d hd
        · exact hT d (List.mem_reverse.mp hd)
      refine ⟨fun i' δ' => ∃ b7 : Sl, δ' = [.dat (.scr ns), .dat (.int (0 + (i : Int))), .dat (.raw (.ref a)), .mu ts, b4, b5, b6, b7, b8], ⟨_, rfl⟩, ?_, ?_⟩
      · rintro i' d δ' hd ⟨b7, rfl⟩
        have hdT := hT2 d (List.mem_of_getElem? hd)
        walk_at "pr"
        refine NL.ed (nl_lst ?_)
        walk_at "pr"
        refine ed_call ?_
        walk_at "pr"
        refine ⟨rfl, ⟨d, rfl, hdT⟩, fun r hr => ?_⟩
        obtain rfl := hr d rfl
        walk_at "pr"
        refine ed_call ?_
        walk_at "pr"
        refine ⟨rfl, ⟨d, rfl, hdT⟩, fun r hr => ?_⟩
        obtain rfl := hr d rfl
        walk_at "pr"
        refine ⟨by simp only [List.length_cons, List.length_nil]; decide, ?_⟩
        walk_at "pr"
        refine cd_repr (d := .list [.bool (isName d), .bool (isName d)]) rfl rfl rfl (by cases isName d <;> decide) (two_shown _) ?_
        walk_at "pr"
        refine NL.ed (nl_lst ?_)
        walk_at "pr"
        refine ed_call ?_
        walk_at "pr"
        refine ⟨rfl, ⟨d, rfl, hdT⟩, fun r hr => ?_⟩
        obtain rfl := hr d rfl
        walk_at "pr"
        refine ⟨by simp only [List.length_cons, List.length_nil]; decide, ?_⟩
        walk_at "pr"
        refine od_repI (n := 2) rfl (by show 1 * 2 ≤ 100000; decide) (by decide) ?_
        walk_at "pr"
        refine cd_repr (d := .list [.bool (isName d), .bool (isName d)]) rfl rfl rfl (by cases isName d <;> decide) (two_shown _) ?_
        refine od_neS ?_
        rw [decide_eq_true rfl]
        walk_at "pr"
        exact ⟨_, rfl⟩
      · rintro δ' ⟨b7, rfl⟩
        exact ⟨_, _, _, _, _, _, _, _, rfl⟩
  · rintro δ' ⟨a1, a2, a3, a4, a5, a6, a7, a8, rfl⟩
    refine sd_seq (sd_asg (NL.ed (nl_lcMap (α := Str) (js := [5]) (by decide) (wd_list (NL.ed (nl_lst ?_))))))
    walk_at "pr"
    refine ⟨by simp only [List.length_cons, List.length_nil]; decide, _, rfl, by simp only [List.length_cons, List.length_nil]; decide, ["", "7a", "abcdefghi", "a b", "aB", "a\n", "a", "a7", "abcdefgh"], Dt.str, fun s => .bl (nameOk s), rfl, fun c hc => ?_, ?_⟩
    · walk_at "pr"
      refine ed_call ?_
      walk_at "pr"
      refine ⟨rfl, ⟨_, rfl, .inl ⟨c, rfl, ?_⟩⟩, fun r hr => hr _ rfl⟩
      have all : ∀ c ∈ (["", "7a", "abcdefghi", "a b", "aB", "a\n", "a", "a7", "abcdefgh"] : List Str), c.length ≤ 1000 := by decide +kernel
      exact all c hc
    · have em : (["", "7a", "abcdefghi", "a b", "aB", "a\n", "a", "a7", "abcdefgh"] : List Str).map (fun s => Dt.bl (nameOk s)) = [.bl false, .bl false, .bl false, .bl false, .bl false, .bl false, .bl true, .bl true, .bl true] := by
        have e : (["", "7a", "abcdefghi", "a b", "aB", "a\n", "a", "a7", "abcdefgh"] : List Str).map nameOk = [false, false, false, false, false, false, true, true, true] := by decide +kernel
        have e2 := congrArg (List.map Dt.bl) e
        rw [List.map_map] at e2
        exact e2
      rw [em]
      walk_at "pr"
      refine cd_repr (d := .list [.bool false, .bool false, .bool false, .bool false, .bool false, .bool false, .bool true, .bool true, .bool true]) rfl rfl rfl (by decide) (by decide +kernel) ?_
      walk_at "pr"
      refine NL.ed (nl_lst ?_)
      walk_at "pr"
      refine ⟨by simp only [List.length_cons, List.length_nil]; decide, ?_⟩
      walk_at "pr"
      refine od_repI (n := 6) rfl (by show 1 * 6 ≤ 100000; decide) (by decide) ?_
      walk_at "pr"
      refine NL.ed (nl_lst ?_)
      walk_at "pr"
      refine ⟨by simp only [List.length_cons, List.length_nil]; decide, ?_⟩
      walk_at "pr"
      refine od_repI (n := 3) rfl (by show 1 * 3 ≤ 100000; decide) (by decide) ?_
      refine od_addL (by decide) ?_
      walk_at "pr"
      refine cd_repr (d := .list [.bool false, .bool false, .bool false, .bool false, .bool false, .bool false, .bool true, .bool true, .bool true]) rfl rfl rfl (by decide) (by decide +kernel) ?_
      refine od_eqS ?_
      exact congrArg Dt.bl (decide_eq_true rfl)
end
end Pd.K01

set_option Elab.async false
set_option linter.all false
set_option maxRecDepth 100000
set_option maxHeartbeats 4000000
namespace Pd.K01
open PySem PySem.Spec PyProof.Rows L2 Pd
theorem law_pre {K : PySem.W.Frag} {H : Hp} {a : Addr} {ns : List Int} (hl : ns.length ≤ 63) (hS : SqL K H a (ns.map V.int)) : spLaw K [.ref a] H (fun v _ => v = .bl true) (fun _ _ _ => False) :=
  ⟨rfl, ⟨K, none, fun _ => True⟩, [.scr ns], H, rfl, ⟨Same.refl H, fun a e => by cases e⟩, .cons (.scr hS) .nil, ⟨rfl, ns, rfl, hl⟩, fun v d G' H' _ _ r e => by
    cases (show d = .bl true from e)
    cases r
    rfl⟩
theorem all_mk {P : Program} {w : World} {K : PySem.W.Frag} {h : Heap} {mg : Str → Option Value} {fa : Addr} {f0 : Addr} {od0 an0 : Option Addr} {sl0 : Array (Option Value)} {oc0 kV0 dc0 pm0 cd0 ct0 : Value} {f1 : Addr} {od1 an1 : Option Addr} {sl1 : Array (Option Value)} {oc1 kV1 dc1 pm1 cd1 ct1 : Value} {f2 : Addr} {od2 an2 : Option Addr} {sl2 : Array (Option Value)} {oc2 kV2 dc2 pm2 cd2 ct2 : Value} {f3 : Addr} {od3 an3 : Option Addr} {sl3 : Array (Option Value)} {oc3 kV3 dc3 pm3 cd3 ct3 : Value} {f4 : Addr} {od4 an4 : Option Addr} {sl4 : Array (Option Value)} {oc4 kV4 dc4 pm4 cd4 ct4 : Value} {f5 : Addr} {od5 an5 : Option Addr} {sl5 : Array (Option Value)} {oc5 kV5 dc5 pm5 cd5 ct5 : Value} {f6 : Addr} {od6 an6 : Option Addr} {sl6 : Array (Option Value)} {oc6 kV6 dc6 pm6 cd6 ct6 : Value} {f7 : Addr} {od7 an7 : Option Addr} {sl7 : Array (Option Value)} {oc7 kV7 dc7 pm7 cd7 ct7 : Value} {f8 : Addr} {od8 an8 : Option Addr} {sl8 : Array (Option Value)} {oc8 kV8 dc8 pm8 cd8 ct8 : Value} {f9 : Addr} {od9 an9 : Option Addr} {sl9 : Array (Option Value)} {oc9 kV9 dc9 pm9 cd9 ct9 : Value} {t0 : Tok} {t1 : Tok} {t2 : Tok} (X : K.In h) (G : h.Ns mainGlobals mg) (hfa : mg "law" = some (.ref fa))
    (a0 : PySem.W.nsIn K mainGlobals "_law_take" = some (some (.ref f0)))
    (l0 : K.lookup f0 = some ⟨oc0, od0, .func (PySem.W.fnOf "_law_take" "_law_take" (defArgs s__law_take) (defBody s__law_take) (defScope s__law_take) .none kV0 dc0 pm0 an0 cd0 ct0), sl0⟩)
    (c0 : PySem.W.codeIn K cd0 "_law_take" = true) (k0 : PySem.W.keepIn K (.ref f0) = true)
    (a1 : PySem.W.nsIn K mainGlobals "_law_cell" = some (some (.ref f1)))
    (l1 : K.lookup f1 = some ⟨oc1, od1, .func (PySem.W.fnOf "_law_cell" "_law_cell" (defArgs s__law_cell) (defBody s__law_cell) (defScope s__law_cell) .none kV1 dc1 pm1 an1 cd1 ct1), sl1⟩)
    (c1 : PySem.W.codeIn K cd1 "_law_cell" = true) (k1 : PySem.W.keepIn K (.ref f1) = true)
    (a2 : PySem.W.nsIn K mainGlobals "_law_stock" = some (some (.ref f2)))
    (l2 : K.lookup f2 = some ⟨oc2, od2, .func (PySem.W.fnOf "_law_stock" "_law_stock" (defArgs s__law_stock) (defBody s__law_stock) (defScope s__law_stock) .none kV2 dc2 pm2 an2 cd2 ct2), sl2⟩)
    (c2 : PySem.W.codeIn K cd2 "_law_stock" = true) (k2 : PySem.W.keepIn K (.ref f2) = true)
    (a3 : PySem.W.nsIn K mainGlobals "is_name" = some (some (.ref f3)))
    (l3 : K.lookup f3 = some ⟨oc3, od3, .func (PySem.W.fnOf "is_name" "is_name" (defArgs s_is_name) (defBody s_is_name) (defScope s_is_name) .none kV3 dc3 pm3 an3 cd3 ct3), sl3⟩)
    (c3 : PySem.W.codeIn K cd3 "is_name" = true) (k3 : PySem.W.keepIn K (.ref f3) = true)
    (a4 : PySem.W.nsIn K mainGlobals "_law_is_name" = some (some (.ref f4)))
    (l4 : K.lookup f4 = some ⟨oc4, od4, .func (PySem.W.fnOf "_law_is_name" "_law_is_name" (defArgs s__law_is_name) (defBody s__law_is_name) (defScope s__law_is_name) .none kV4 dc4 pm4 an4 cd4 ct4), sl4⟩)
    (c4 : PySem.W.codeIn K cd4 "_law_is_name" = true) (k4 : PySem.W.keepIn K (.ref f4) = true)
    (a5 : PySem.W.nsIn K mainGlobals "_law_sign" = some (some (.ref f5)))
    (l5 : K.lookup f5 = some ⟨oc5, od5, .func (PySem.W.fnOf "_law_sign" "_law_sign" (defArgs s__law_sign) (defBody s__law_sign) (defScope s__law_sign) .none kV5 dc5 pm5 an5 cd5 ct5), sl5⟩)
    (c5 : PySem.W.codeIn K cd5 "_law_sign" = true) (k5 : PySem.W.keepIn K (.ref f5) = true)
    (a6 : PySem.W.nsIn K mainGlobals "_law_word" = some (some (.ref f6)))
    (l6 : K.lookup f6 = some ⟨oc6, od6, .func (PySem.W.fnOf "_law_word" "_law_word" (defArgs s__law_word) (defBody s__law_word) (defScope s__law_word) .none kV6 dc6 pm6 an6 cd6 ct6), sl6⟩)
    (c6 : PySem.W.codeIn K cd6 "_law_word" = true) (k6 : PySem.W.keepIn K (.ref f6) = true)
    (a7 : PySem.W.nsIn K mainGlobals "_law_plain" = some (some (.ref f7)))
    (l7 : K.lookup f7 = some ⟨oc7, od7, .func (PySem.W.fnOf "_law_plain" "_law_plain" (defArgs s__law_plain) (defBody s__law_plain) (defScope s__law_plain) .none kV7 dc7 pm7 an7 cd7 ct7), sl7⟩)
    (c7 : PySem.W.codeIn K cd7 "_law_plain" = true) (k7 : PySem.W.keepIn K (.ref f7) = true)
    (a8 : PySem.W.nsIn K mainGlobals "_law_bent" = some (some (.ref f8)))
    (l8 : K.lookup f8 = some ⟨oc8, od8, .func (PySem.W.fnOf "_law_bent" "_law_bent" (defArgs s__law_bent) (defBody s__law_bent) (defScope s__law_bent) .none kV8 dc8 pm8 an8 cd8 ct8), sl8⟩)
    (c8 : PySem.W.codeIn K cd8 "_law_bent" = true) (k8 : PySem.W.keepIn K (.ref f8) = true)
    (a9 : PySem.W.nsIn K mainGlobals "law" = some (some (.ref f9)))
    (l9 : K.lookup f9 = some ⟨oc9, od9, .func (PySem.W.fnOf "law" "law" (defArgs s_law) (defBody s_law) (defScope s_law) .none kV9 dc9 pm9 an9 cd9 ct9), sl9⟩)
    (c9 : PySem.W.codeIn K cd9 "law" = true) (k9 : PySem.W.keepIn K (.ref f9) = true)
    (z0 : PySem.W.nsIn K mainGlobals "len" = some none)
    (z1 : PySem.W.nsIn K mainGlobals "int" = some none)
    (z2 : PySem.W.nsIn K mainGlobals "abs" = some none)
    (z3 : PySem.W.nsIn K mainGlobals "isinstance" = some none)
    (z4 : PySem.W.nsIn K mainGlobals "str" = some none)
    (z5 : PySem.W.nsIn K mainGlobals "all" = some none)
    (z6 : PySem.W.nsIn K mainGlobals "range" = some none)
    (z7 : PySem.W.nsIn K mainGlobals "max" = some none)
    (z8 : PySem.W.nsIn K mainGlobals "min" = some none)
    (z9 : PySem.W.nsIn K mainGlobals "repr" = some none)
    (qq0 : PySem.W.nsIn K mainGlobals "LETTERS" = some (some (.str "abcdefghijklmnopqrstuvwxyz" t0)))
    (qq1 : PySem.W.nsIn K mainGlobals "SIGNS" = some (some (.str "abcdefghijklmnopqrstuvwxyz0123456789" t1)))
    (qq2 : PySem.W.nsIn K mainGlobals "LONGEST" = some (some (.int 8 t2)))
    : ∃ fd : FuncData, (∀ (s : Shared) (v : Value), BindsTo s fd ⟨[v], []⟩ [("_law_script", v)]) ∧ ∀ base : Heap, K.In base → base.Ns mainGlobals mg → Pg.FnG P w K mg base 5 fa fd ["_law_script"] (spLaw K) := by
  have e := hfa.symm.trans (PySem.W.mg_of X G a9)
  cases e
  have T : Txt mg := ⟨PySem.W.mg_none_of X G z0, PySem.W.mg_none_of X G z1, PySem.W.mg_none_of X G z2, PySem.W.mg_none_of X G z3, PySem.W.mg_none_of X G z4, PySem.W.mg_none_of X G z5, PySem.W.mg_none_of X G z6, PySem.W.mg_none_of X G z7, PySem.W.mg_none_of X G z8, PySem.W.mg_none_of X G z9, ⟨_, PySem.W.mg_of X G qq0, ⟨_, rfl⟩⟩, ⟨_, PySem.W.mg_of X G qq1, ⟨_, rfl⟩⟩, ⟨_, PySem.W.mg_of X G qq2, ⟨_, rfl⟩⟩⟩
  have F0 := fun_mk (st := s__law_take) l0 c0 k0
  have b0 := F0.binds (ps := ["_law_stock_here", "_law_many"]) fun _ _ _ _ _ _ us hl => match us, hl with | [_, _], _ => rfl
  have c__law_take : ∀ base : Heap, Cl P w K mg base 1 "_law_take" (spTake K) := fun base => ⟨_, _, _, ok_take F0 T , PySem.W.mg_of X G a0, k0, b0⟩
  have F1 := fun_mk (st := s__law_cell) l1 c1 k1
  have b1 := F1.binds (ps := ["_law_script", "_law_k"]) fun _ _ _ _ _ _ us hl => match us, hl with | [_, _], _ => rfl
  have c__law_cell : ∀ base : Heap, Cl P w K mg base 1 "_law_cell" (spCell K) := fun base => ⟨_, _, _, ok_cell F1 T , PySem.W.mg_of X G a1, k1, b1⟩
  have F2 := fun_mk (st := s__law_stock) l2 c2 k2
  have b2 := F2.binds (ps := ["_law_cell_here"]) fun _ _ _ _ _ _ us hl => match us, hl with | [_], _ => rfl
  have c__law_stock : ∀ base : Heap, Cl P w K mg base 1 "_law_stock" (spStock K) := fun base => ⟨_, _, _, ok_stock F2 T , PySem.W.mg_of X G a2, k2, b2⟩
  have F3 := fun_mk (st := s_is_name) l3 c3 k3
  have b3 := F3.binds (ps := ["value"]) fun _ _ _ _ _ _ us hl => match us, hl with | [_], _ => rfl
  have c_is_name : ∀ base : Heap, Cl P w K mg base 1 "is_name" (spName K) := fun base => ⟨_, _, _, ok_is_name F3 T , PySem.W.mg_of X G a3, k3, b3⟩
  have ck_is_name : ∀ base : Heap, ClK P w K mg base 1 "is_name" ["value"] (spName K) := fun base => ⟨_, _, ok_is_name F3 T , PySem.W.mg_of X G a3, k3, fun s us hl => match us, hl with | [_], _ => .of_eq rfl⟩
  have F4 := fun_mk (st := s__law_is_name) l4 c4 k4
  have b4 := F4.binds (ps := ["_law_thing"]) fun _ _ _ _ _ _ us hl => match us, hl with | [_], _ => rfl
  have c__law_is_name : ∀ base : Heap, Cl P w K mg base 1 "_law_is_name" (spName K) := fun base => ⟨_, _, _, ok__law_is_name F4 T , PySem.W.mg_of X G a4, k4, b4⟩
  have F5 := fun_mk (st := s__law_sign) l5 c5 k5
  have b5 := F5.binds (ps := ["_law_stock_here"]) fun _ _ _ _ _ _ us hl => match us, hl with | [_], _ => rfl
  have c__law_sign : ∀ base : Heap, Cl P w K mg base 2 "_law_sign" (spSign K) := fun base => ⟨_, _, _, ok_sign F5 T (c__law_take base), PySem.W.mg_of X G a5, k5, b5⟩
  have F6 := fun_mk (st := s__law_word) l6 c6 k6
  have b6 := F6.binds (ps := ["_law_stock_here", "_law_many"]) fun _ _ _ _ _ _ us hl => match us, hl with | [_, _], _ => rfl
  have c__law_word : ∀ base : Heap, Cl P w K mg base 3 "_law_word" (spWord K) := fun base => ⟨_, _, _, ok_word F6 T (c__law_sign base), PySem.W.mg_of X G a6, k6, b6⟩
  have F7 := fun_mk (st := s__law_plain) l7 c7 k7
  have b7 := F7.binds (ps := ["_law_stock_here"]) fun _ _ _ _ _ _ us hl => match us, hl with | [_], _ => rfl
  have c__law_plain : ∀ base : Heap, Cl P w K mg base 2 "_law_plain" (spPlain K) := fun base => ⟨_, _, _, ok_plain F7 T (c__law_take base), PySem.W.mg_of X G a7, k7, b7⟩
  have F8 := fun_mk (st := s__law_bent) l8 c8 k8
  have b8 := F8.binds (ps := ["_law_stock_here", "_law_word_here"]) fun _ _ _ _ _ _ us hl => match us, hl with | [_, _], _ => rfl
  have c__law_bent : ∀ base : Heap, Cl P w K mg base 3 "_law_bent" (spBent K) := fun base => ⟨_, _, _, ok_bent F8 T (c__law_take base) (c__law_sign base), PySem.W.mg_of X G a8, k8, b8⟩
  have F9 := fun_mk (st := s_law) l9 c9 k9
  exact ⟨_, fun s v => .of_eq rfl, fun base _ _ => ok_law F9 T (c__law_take base) (c__law_cell base) (c__law_stock base) (c__law_plain base) (c__law_bent base) (c__law_word base) (c_is_name base) (ck_is_name base) (c__law_is_name base)⟩
end Pd.K01
open PySem PySem.W PyProof.Rows
set_option maxRecDepth 100000 in
set_option maxHeartbeats 0 in
theorem PySem.Challenge.cw_everysite_k01_names_holds : PySem.Challenge.rw_everysite_k01_names.Holds := by
  w_on; o_law; k_head; (case hw => w_witness2)
  k_fill
  refine Pg.walkG_of (l := PySem.Challenge.rw_everysite_k01_names) (n := 63) (k := 5) (x := "_law_script") (sp := fun w => Pd.K01.spLaw _) rfl (by decide) rfl ⟨rfl, by decide, by decide⟩ (fun w h Y => PySem.W.kIn_of Y) ?F (fun _ _ a ns hl _ hS => Pd.K01.law_pre hl hS)
  case F =>
    intro w mg fa h KX G hmg
    refine' Pd.K01.all_mk KX G hmg ?a0 ?l0 ?c0 ?k0 ?a1 ?l1 ?c1 ?k1 ?a2 ?l2 ?c2 ?k2 ?a3 ?l3 ?c3 ?k3 ?a4 ?l4 ?c4 ?k4 ?a5 ?l5 ?c5 ?k5 ?a6 ?l6 ?c6 ?k6 ?a7 ?l7 ?c7 ?k7 ?a8 ?l8 ?c8 ?k8 ?a9 ?l9 ?c9 ?k9 ?z0 ?z1 ?z2 ?z3 ?z4 ?z5 ?z6 ?z7 ?z8 ?z9 ?qq0 ?qq1 ?qq2
    (case a0 => k_is)
    (case l0 => k_is)
    (case c0 => k_is)
    (case k0 => k_is)
    (case a1 => k_is)
    (case l1 => k_is)
    (case c1 => k_is)
    (case k1 => k_is)
    (case a2 => k_is)
    (case l2 => k_is)
    (case c2 => k_is)
    (case k2 => k_is)
    (case a3 => k_is)
    (case l3 => k_is)
    (case c3 => k_is)
    (case k3 => k_is)
    (case a4 => k_is)
    (case l4 => k_is)
    (case c4 => k_is)
    (case k4 => k_is)
    (case a5 => k_is)
    (case l5 => k_is)
    (case c5 => k_is)
    (case k5 => k_is)
    (case a6 => k_is)
    (case l6 => k_is)
    (case c6 => k_is)
    (case k6 => k_is)
    (case a7 => k_is)
    (case l7 => k_is)
    (case c7 => k_is)
    (case k7 => k_is)
    (case a8 => k_is)
    (case l8 => k_is)
    (case c8 => k_is)
    (case k8 => k_is)
    (case a9 => k_is)
    (case l9 => k_is)
    (case c9 => k_is)
    (case k9 => k_is)
    (case z0 => k_is)
    (case z1 => k_is)
    (case z2 => k_is)
    (case z3 => k_is)
    (case z4 => k_is)
    (case z5 => k_is)
    (case z6 => k_is)
    (case z7 => k_is)
    (case z8 => k_is)
    (case z9 => k_is)
    (case qq0 => k_is)
    (case qq1 => k_is)
    (case qq2 => k_is)
#print axioms PySem.Challenge.cw_everysite_k01_names_holds

