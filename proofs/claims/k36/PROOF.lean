import PyProof.Rows.All
import Wide.All
import OpenK.AllK
import Wide.FinOn
import HandS.ForMost
import HandS.TupMul
import HandS.TupAny
import HandS.Style
import HandS.IsInst
import HandS.Zip
import HandS.Conv
import HandS.More
import HandS.Flow
import HandS.Exc
import HandS.ExcOwn
import HandS.TryOnly
import HandS.Lambda
import HandS.HeadHook3
import KE.KRevSl
import HandS.SortInts
import HandS.Property
import KE.KOpsOwn
import HandS.Records
import HandS.DictComp
import HandS.ExcIs
import HandS.EndTab
import HandS.NestedK
import PySem.Challenge.RW_allstitches_k36_whole_set_identities

section
set_option Elab.async false
set_option linter.all false
set_option autoImplicit false
set_option maxRecDepth 100000
/-! A data layer over the hand layer: values as plain data, environments as lists of slots, each def as a plain function. -/
namespace DL
open PySem PySem.Spec L2

/-- a value with all that hangs on it -/
inductive D where
  | non | bl (b : Bool) | int (i : Int) | str (x : Str)
  | tup (xs : List D) | lst (xs : List D)
  | dic (ks : List Key) (vs : List D)
  | dit (ks : List (List Key)) (vs : List D)
  | obj (c : Nat) (ks : List Str) (vs : List D)
  | drw | scr

/-- the classes' addresses, the script -/
structure Wd where
  cl : Nat → Addr
  ns : List Int
  tb : List (Addr × Str)

mutual
inductive Den (K : PySem.W.Frag) (W : Wd) (dr : Option Addr) (F : Hp) : V → D → Prop
  | non : Den K W dr F .non .non
  | bl (b : Bool) : Den K W dr F (.bl b) (.bl b)
  | int (i : Int) : Den K W dr F (.int i) (.int i)
  | str (x : Str) : Den K W dr F (.str x) (.str x)
  | tup {a : Addr} {vs : List V} {ds : List D} : SqT K F a vs → Dens K W dr F vs ds → Den K W dr F (.ref a) (.tup ds)
  | lst {a : Addr} {vs : List V} {ds : List D} : F a = some (.lst vs) → Dens K W dr F vs ds → Den K W dr F (.ref a) (.lst ds)
  | scr {a : Addr} : SqL K F a (W.ns.map V.int) → Den K W dr F (.ref a) .scr
  | dic {a : Addr} {ks : List Key} {vs : List V} {ds : List D} : ks.length = vs.length → Rd F a (.dK (ks.zip vs)) → Dens K W dr F vs ds → Den K W dr F (.ref a) (.dic ks ds)
  | dit {a : Addr} {ks : List (List Key)} {vs : List V} {ds : List D} : ks.length = vs.length → Rd F a (.dT (ks.zip vs)) → Dens K W dr F vs ds → Den K W dr F (.ref a) (.dit ks ds)
  | obj {a dx : Addr} {c : Nat} {ks : List Str} {vs : List V} {ds : List D} : ks.length = vs.length → F a = some (.ins (W.cl c) dx (ks.zip vs)) → Dens K W dr F vs ds → Den K W dr F (.ref a) (.obj c ks ds)
  | drw {a : Addr} : dr = some a → Den K W dr F (.ref a) .drw
inductive Dens (K : PySem.W.Frag) (W : Wd) (dr : Option Addr) (F : Hp) : List V → List D → Prop
  | nil : Dens K W dr F [] []
  | cons {v : V} {vs : List V} {d : D} {ds : List D} : Den K W dr F v d → Dens K W dr F vs ds → Dens K W dr F (v :: vs) (d :: ds)
end

/-- F is part of H -/
def Sub (F H : Hp) : Prop := ∀ a o, F a = some o → H a = some o
theorem Sub.refl (F : Hp) : Sub F F := fun _ _ h => h
theorem Sub.trans {F G H : Hp} (a : Sub F G) (b : Sub G H) : Sub F H := fun x o h => b x o (a x o h)
theorem Sub.rd {F G : Hp} (s : Sub F G) {a : Addr} {u : HO} (h : Rd F a u) : Rd G a u := by
  rcases h with h | ⟨o, h⟩
  · exact .inl (s _ _ h)
  · exact .inr ⟨o, s _ _ h⟩
theorem Sub.sqL {K : PySem.W.Frag} {F G : Hp} (s : Sub F G) {a : Addr} {xs : List V} (h : SqL K F a xs) : SqL K G a xs := h.imp s.rd id
theorem Sub.sqT {K : PySem.W.Frag} {F G : Hp} (s : Sub F G) {a : Addr} {xs : List V} (h : SqT K F a xs) : SqT K G a xs := h.imp s.rd id
theorem Sub.new {F H : Hp} (s : Sub F H) {p : Addr} {o : HO} (hp : H p = none) : Sub F (upd F p o) := fun a u h => by
  have hF : F p = none := by
    cases e : F p with
    | none => rfl
    | some z => rw [s _ _ e] at hp; cases hp
  rw [upd_ne (ne_of_none h hF)]
  exact h

section
variable {K : PySem.W.Frag} {W : Wd} {dr dr' : Option Addr} {F G : Hp}
mutual
theorem Den.mono (s : Sub F G) (e : ∀ a, dr = some a → dr' = some a) : ∀ {v : V} {d : D}, Den K W dr F v d → Den K W dr' G v d
  | _, _, .non => .non
  | _, _, .bl b => .bl b
  | _, _, .int i => .int i
  | _, _, .str x => .str x
  | _, _, .tup h r => .tup (s.sqT h) (Dens.mono s e r)
  | _, _, .lst h r => .lst (s _ _ h) (Dens.mono s e r)
  | _, _, .scr h => .scr (s.sqL h)
  | _, _, .dic l h r => .dic l (s.rd h) (Dens.mono s e r)
  | _, _, .dit l h r => .dit l (s.rd h) (Dens.mono s e r)
  | _, _, .obj l h r => .obj l (s _ _ h) (Dens.mono s e r)
  | _, _, .drw h => .drw (e _ h)
theorem Dens.mono (s : Sub F G) (e : ∀ a, dr = some a → dr' = some a) : ∀ {vs : List V} {ds : List D}, Dens K W dr F vs ds → Dens K W dr' G vs ds
  | _, _, .nil => .nil
  | _, _, .cons h r => .cons (Den.mono s e h) (Dens.mono s e r)
end
theorem Dens.length : ∀ {vs : List V} {ds : List D}, Dens K W dr F vs ds → vs.length = ds.length
  | _, _, .nil => rfl
  | _, _, .cons _ r => by simp [Dens.length r]
theorem Dens.get : ∀ {vs : List V} {ds : List D} {i : Nat} {d : D}, Dens K W dr F vs ds → ds[i]? = some d → ∃ v, vs[i]? = some v ∧ Den K W dr F v d
  | _, _, _, _, .nil, e => by simp at e
  | _, _, 0, _, .cons h _, e => by simp at e; subst e; exact ⟨_, rfl, h⟩
  | _, _, i + 1, _, .cons _ r, e => by
    obtain ⟨v, h1, h2⟩ := Dens.get (i := i) r (by simpa using e)
    exact ⟨v, by simpa using h1, h2⟩
theorem Dens.get' : ∀ {vs : List V} {ds : List D} {i : Nat} {v : V}, Dens K W dr F vs ds → vs[i]? = some v → ∃ d, ds[i]? = some d ∧ Den K W dr F v d
  | _, _, _, _, .nil, e => by simp at e
  | _, _, 0, _, .cons h _, e => by simp at e; subst e; exact ⟨_, rfl, h⟩
  | _, _, i + 1, _, .cons _ r, e => by
    obtain ⟨v, h1, h2⟩ := Dens.get' (i := i) r (by simpa using e)
    exact ⟨v, by simpa using h1, h2⟩
theorem Dens.append : ∀ {vs us : List V} {ds es : List D}, Dens K W dr F vs ds → Dens K W dr F us es → Dens K W dr F (vs ++ us) (ds ++ es)
  | _, _, _, _, .nil, s => s
  | _, _, _, _, .cons h r, s => .cons h (Dens.append r s)
theorem Dens.take : ∀ {vs : List V} {ds : List D} (n : Nat), Dens K W dr F vs ds → Dens K W dr F (vs.take n) (ds.take n)
  | _, _, 0, _ => .nil
  | _, _, _ + 1, .nil => .nil
  | _, _, n + 1, .cons h r => .cons h (Dens.take n r)
theorem Dens.drop : ∀ {vs : List V} {ds : List D} (n : Nat), Dens K W dr F vs ds → Dens K W dr F (vs.drop n) (ds.drop n)
  | _, _, 0, r => r
  | _, _, _ + 1, .nil => .nil
  | _, _, n + 1, .cons _ r => Dens.drop n r
theorem Dens.rep {vs : List V} {ds : List D} (h : Dens K W dr F vs ds) : ∀ k : Nat, Dens K W dr F (List.replicate k vs).flatten (List.replicate k ds).flatten
  | 0 => .nil
  | k + 1 => by
    rw [List.replicate_succ, List.replicate_succ, List.flatten_cons, List.flatten_cons]
    exact h.append (Dens.rep h k)
theorem Dens.reverse {vs : List V} {ds : List D} (h : Dens K W dr F vs ds) : Dens K W dr F vs.reverse ds.reverse := by
  induction vs generalizing ds with
  | nil => cases h; exact .nil
  | cons v vs ih =>
    cases h with
    | cons h r =>
      rw [List.reverse_cons, List.reverse_cons]
      exact (ih r).append (.cons h .nil)
theorem Dens.set : ∀ {vs : List V} {ds : List D} {v : V} {d : D} (i : Nat), Dens K W dr F vs ds → Den K W dr F v d → Dens K W dr F (vs.set i v) (ds.set i d)
  | _, _, _, _, _, .nil, _ => .nil
  | _, _, _, _, 0, .cons _ r, h => .cons h r
  | _, _, _, _, i + 1, .cons q r, h => .cons q (Dens.set i r h)
end

/-! ### computations -/
/-- what is raised: its class, its fields -/
structure Xc where
  c : Nat
  ks : List Str
  vs : List D
abbrev M (α : Type) := Int → Option (Except Xc α × Int)
def M.pure {α : Type} (a : α) : M α := fun n => some (.ok a, n)
def M.bind {α β : Type} (a : M α) (k : α → M β) : M β := fun n => match a n with
  | none => none
  | some (.ok x, n1) => k x n1
  | some (.error e, n1) => some (.error e, n1)
def M.opt {α : Type} (o : Option α) : M α := fun n => match o with
  | none => none
  | some a => some (.ok a, n)
def M.map {α β : Type} (f : α → β) (a : M α) : M β := M.bind a fun x => M.pure (f x)
theorem M.bind_ok {α β : Type} {a : M α} {k : α → M β} {n n2 : Int} {y : β} (h : M.bind a k n = some (.ok y, n2)) : ∃ x n1, a n = some (.ok x, n1) ∧ k x n1 = some (.ok y, n2) := by
  unfold M.bind at h
  split at h
  · cases h
  · exact ⟨_, _, ‹_›, h⟩
  · cases h
theorem M.opt_ok {α : Type} {o : Option α} {n n1 : Int} {x : α} (h : M.opt o n = some (.ok x, n1)) : o = some x ∧ n1 = n := by
  unfold M.opt at h
  split at h
  · cases h
  · cases h; exact ⟨rfl, rfl⟩
theorem M.pure_ok {α : Type} {a : α} {n n1 : Int} {x : α} (h : M.pure a n = some (.ok x, n1)) : a = x ∧ n1 = n := by
  unfold M.pure at h; cases h; exact ⟨rfl, rfl⟩
theorem M.bind_pure {α β : Type} (a : α) (k : α → M β) : M.bind (M.pure a) k = k a := rfl
theorem M.bind_of {α β : Type} {a : M α} {k : α → M β} {n n1 : Int} {x : α} (h : a n = some (.ok x, n1)) : M.bind a k n = k x n1 := by
  unfold M.bind; rw [h]

inductive Sl where
  | no | val (d : D) | own (d : D)
abbrev Env := List Sl
inductive Out where
  | nx (ρ : Env) | bk (ρ : Env) | ct (ρ : Env) | ret (d : D)
abbrev EX := Env → M D
abbrev EXs := Env → M (List D)
abbrev TX := Env → M Bool
abbrev SX := Env → M Out

/-! ### what a state means -/
/-- a def's run: the draw's cell, the script's address, the heap and the known part at the entry, what may be changed besides -/
structure Fr where
  dr : Option Addr
  sa : Addr
  H0 : Hp
  F0 : Hp
  ex : Addr → Prop

/-- what may be changed, at a -/
def MDen (K : PySem.W.Frag) (W : Wd) (dr : Option Addr) (F H : Hp) (a : Addr) : D → Prop
  | .lst ds => ∃ vs, H a = some (.lst vs) ∧ Dens K W dr F vs ds
  | .dic ks ds => ∃ vs, ks.length = vs.length ∧ H a = some (.dK (ks.zip vs)) ∧ Dens K W dr F vs ds
  | .dit ks ds => ∃ vs, ks.length = vs.length ∧ H a = some (.dT (ks.zip vs)) ∧ Dens K W dr F vs ds
  | .obj c ks ds => ∃ dx vs, ks.length = vs.length ∧ H a = some (.ins (W.cl c) dx (ks.zip vs)) ∧ Dens K W dr F vs ds
  | _ => False
theorem MDen.mono {K : PySem.W.Frag} {W : Wd} {dr : Option Addr} {F F' H H' : Hp} {a : Addr} {d : D} (s : Sub F F') (h : ∀ o, H a = some o → H' a = some o) (m : MDen K W dr F H a d) : MDen K W dr F' H' a d := by
  cases d with
  | lst ds => obtain ⟨vs, e, r⟩ := m; exact ⟨vs, h _ e, r.mono s fun _ z => z⟩
  | dic ks ds => obtain ⟨vs, l, e, r⟩ := m; exact ⟨vs, l, h _ e, r.mono s fun _ z => z⟩
  | dit ks ds => obtain ⟨vs, l, e, r⟩ := m; exact ⟨vs, l, h _ e, r.mono s fun _ z => z⟩
  | obj c ks ds => obtain ⟨dx, vs, l, e, r⟩ := m; exact ⟨dx, vs, l, h _ e, r.mono s fun _ z => z⟩
  | non => exact m.elim
  | bl _ => exact m.elim
  | int _ => exact m.elim
  | str _ => exact m.elim
  | tup _ => exact m.elim
  | drw => exact m.elim
  | scr => exact m.elim
theorem MDen.there {K : PySem.W.Frag} {W : Wd} {dr : Option Addr} {F H : Hp} {a : Addr} {d : D} (m : MDen K W dr F H a d) : ∃ o, H a = some o := by
  cases d with
  | lst ds => obtain ⟨vs, e, r⟩ := m; exact ⟨_, e⟩
  | dic ks ds => obtain ⟨vs, l, e, r⟩ := m; exact ⟨_, e⟩
  | dit ks ds => obtain ⟨vs, l, e, r⟩ := m; exact ⟨_, e⟩
  | obj c ks ds => obtain ⟨dx, vs, l, e, r⟩ := m; exact ⟨_, e⟩
  | non => exact m.elim
  | bl _ => exact m.elim
  | int _ => exact m.elim
  | str _ => exact m.elim
  | tup _ => exact m.elim
  | drw => exact m.elim
  | scr => exact m.elim

/-- no code object's table; a table or something else that stands aside -/
def NT (o : HO) : Prop := ∀ ps, o ≠ .tbl ps
def Sd (o : HO) : Prop := (∃ ps, o = .tbl ps) ∨ ∃ φ, o = .ext φ
def mask (H : Hp) : Hp := fun a => match H a with
  | some (.tbl _) => none
  | o => o
theorem mask_of {H : Hp} {a : Addr} {o : HO} (h : H a = some o) (n : NT o := by (intro _ z; cases z)) : mask H a = some o := by
  unfold mask
  rw [h]
  cases o <;> first | rfl | exact absurd rfl (n _)
theorem of_mask {H : Hp} {a : Addr} {o : HO} (h : mask H a = some o) : H a = some o ∧ NT o := by
  unfold mask at h
  split at h
  · cases h
  · rename_i x
    refine ⟨h, fun ps e => ?_⟩
    subst e
    exact x ps h
theorem sd_no {H : Hp} {p : Addr} (h : H p = none) : ∀ u, H p = some u → ¬ Sd u := fun u z => by rw [h] at z; cases z
theorem sd_of {H : Hp} {p : Addr} {o : HO} (h : H p = some o) (n : ¬ Sd o := by (rintro (⟨_, z⟩ | ⟨_, z⟩) <;> cases z)) : ∀ u, H p = some u → ¬ Sd u := fun u z => by rw [h] at z; cases z; exact n
theorem tabs_keep {T : List (Addr × Str)} {H H' : Hp} (t : LamX.Tabs T H) (k : ∀ a o, H a = some o → Sd o → H' a = some o) : LamX.Tabs T H' := fun p hp => by
  obtain ⟨ps, h1, h2, h3⟩ := t p hp
  refine ⟨ps, k _ _ h1 (.inl ⟨_, rfl⟩), h2, fun pos cv e => ?_⟩
  obtain ⟨c, e1, e2⟩ := h3 pos cv e
  exact ⟨c, e1, k _ _ e2 (.inr ⟨_, rfl⟩)⟩
theorem MDen.pl {K : PySem.W.Frag} {W : Wd} {dr : Option Addr} {F H : Hp} {a : Addr} {d : D} (m : MDen K W dr F H a d) {o : HO} (h : H a = some o) : NT o ∧ ¬ Sd o := by
  have go : ∀ u : HO, H a = some u → NT u → (∀ φ, u ≠ .ext φ) → NT o ∧ ¬ Sd o := fun u e n x => by
    rw [h] at e
    cases e
    exact ⟨n, fun z => by
      rcases z with ⟨ps, z⟩ | ⟨φ, z⟩
      · exact n _ z
      · exact x _ z⟩
  cases d with
  | lst ds => obtain ⟨vs, e, r⟩ := m; exact go _ e (fun _ z => by cases z) fun _ z => by cases z
  | dic ks ds => obtain ⟨vs, l, e, r⟩ := m; exact go _ e (fun _ z => by cases z) fun _ z => by cases z
  | dit ks ds => obtain ⟨vs, l, e, r⟩ := m; exact go _ e (fun _ z => by cases z) fun _ z => by cases z
  | obj c ks ds => obtain ⟨dx, vs, l, e, r⟩ := m; exact go _ e (fun _ z => by cases z) fun _ z => by cases z
  | non => exact m.elim
  | bl _ => exact m.elim
  | int _ => exact m.elim
  | str _ => exact m.elim
  | tup _ => exact m.elim
  | drw => exact m.elim
  | scr => exact m.elim
structure Core (K : PySem.W.Frag) (W : Wd) (fr : Fr) (F H : Hp) (n : Int) : Prop where
  sub : Sub F H
  base : ∀ a o, fr.H0 a = some o → fr.dr ≠ some a → ¬ fr.ex a → H a = some o
  f0 : Sub fr.F0 F
  new : ∀ a o, fr.H0 a = some o → fr.F0 a = none → F a = none
  there : ∀ a o, fr.H0 a = some o → ∃ o', H a = some o' ∧ NT o'
  draw : ∀ a, fr.dr = some a → F a = none ∧ H a = some (.lst [.ref fr.sa, .int n]) ∧ SqL K F fr.sa (W.ns.map V.int)
  ntF : ∀ a o, F a = some o → NT o
  tabs : LamX.Tabs W.tb H

/-- an instance -/
def isO : D → Bool | .obj _ _ _ => true | _ => false
structure Slots (K : PySem.W.Frag) (W : Wd) (fr : Fr) (F H : Hp) (σ : St) (ρ : Env) (ad : Nat → Addr) : Prop where
  len : σ.length = ρ.length
  val : ∀ (i : Nat) (d : D), ρ[i]? = some (Sl.val d) → ∃ v, σ[i]? = some (some v) ∧ Den K W fr.dr F v d
  own : ∀ (i : Nat) (d : D), ρ[i]? = some (Sl.own d) → σ[i]? = some (some (.ref (ad i))) ∧ F (ad i) = none ∧ fr.dr ≠ some (ad i) ∧ (fr.H0 (ad i) = none ∨ fr.ex (ad i)) ∧ MDen K W fr.dr F H (ad i) d ∧ ((isO d = true ∧ fr.ex (ad i)) ∨ (isO d = false ∧ fr.H0 (ad i) = none))
  inj : ∀ (i j : Nat) (d e : D), ρ[i]? = some (Sl.own d) → ρ[j]? = some (Sl.own e) → ad i = ad j → i = j

structure Rel (K : PySem.W.Frag) (W : Wd) (fr : Fr) (F H : Hp) (σ : St) (ρ : Env) (n : Int) : Prop where
  core : Core K W fr F H n
  slots : ∃ ad, Slots K W fr F H σ ρ ad

section
variable {K : PySem.W.Frag} {W : Wd} {fr : Fr} {F F' H H' : Hp} {σ σ' : St} {ρ ρ' : Env} {n n' : Int}
theorem Core.noF (c : Core K W fr F H n) {p : Addr} (hp : H p = none) : F p = none := by
  cases e : F p with
  | none => rfl
  | some z => rw [c.sub _ _ e] at hp; cases hp
theorem Core.ndr (c : Core K W fr F H n) {p : Addr} (hp : H p = none) : fr.dr ≠ some p := fun e => by
  rw [(c.draw p e).2.1] at hp; cases hp
theorem Core.noH0 (c : Core K W fr F H n) {p : Addr} (hp : H p = none) : fr.H0 p = none := by
  cases e : fr.H0 p with
  | none => rfl
  | some z => obtain ⟨o, h, _⟩ := c.there _ _ e; rw [h] at hp; cases hp
/-- a new object, known from now on (k) or not -/
theorem Core.fresh (c : Core K W fr F H n) {p : Addr} {o : HO} (hp : H p = none) (ho : NT o := by (intro _ h; cases h)) : Core K W fr (upd F p o) (upd H p o) n where
  sub := fun a u h => by
    by_cases e : a = p
    · subst e; rw [upd_same] at h ⊢; exact h
    · rw [upd_ne e] at h ⊢; exact c.sub _ _ h
  base := fun a u h1 h2 h3 => by
    have h := c.base a u h1 h2 h3
    rw [upd_ne (ne_of_none h hp)]; exact h
  f0 := c.f0.trans (c.sub.new hp)
  new := fun a u h1 h2 => by
    have e : a ≠ p := ne_of_none h1 (c.noH0 hp)
    rw [upd_ne e]; exact c.new a u h1 h2
  there := fun a u h => by
    obtain ⟨o', q, nt⟩ := c.there a u h
    exact ⟨o', by rw [upd_ne (ne_of_none q hp)]; exact q, nt⟩
  draw := fun a e => by
    obtain ⟨h1, h2, h3⟩ := c.draw a e
    have q : a ≠ p := ne_of_none h2 hp
    exact ⟨by rw [upd_ne q]; exact h1, by rw [upd_ne q]; exact h2, (c.sub.new hp).sqL h3⟩
  ntF := fun a u h => by
    by_cases e : a = p
    · subst e; rw [upd_same] at h; cases h; exact ho
    · rw [upd_ne e] at h; exact c.ntF a u h
  tabs := tabs_keep c.tabs fun a u h _ => by rw [upd_ne (ne_of_none h hp)]; exact h
/-- a new object, not known -/
theorem Core.fresh' (c : Core K W fr F H n) {p : Addr} {o : HO} (hp : H p = none) : Core K W fr F (upd H p o) n where
  sub := fun a u h => by
    have q := c.sub _ _ h
    rw [upd_ne (ne_of_none q hp)]; exact q
  base := fun a u h1 h2 h3 => by
    have h := c.base a u h1 h2 h3
    rw [upd_ne (ne_of_none h hp)]; exact h
  f0 := c.f0
  new := c.new
  there := fun a u h => by
    obtain ⟨o', q, nt⟩ := c.there a u h
    exact ⟨o', by rw [upd_ne (ne_of_none q hp)]; exact q, nt⟩
  draw := fun a e => by
    obtain ⟨h1, h2, h3⟩ := c.draw a e
    have q : a ≠ p := ne_of_none h2 hp
    exact ⟨h1, by rw [upd_ne q]; exact h2, h3⟩
  ntF := c.ntF
  tabs := tabs_keep c.tabs fun a u h _ => by rw [upd_ne (ne_of_none h hp)]; exact h
/-- the run that begins where another one stands -/
def Fr.at (fr : Fr) (F H : Hp) : Fr := ⟨fr.dr, fr.sa, mask H, F, fun _ => False⟩
theorem Core.at (c : Core K W fr F H n) : Core K W (fr.at F H) F H n := ⟨c.sub, fun _ _ h _ _ => (of_mask h).1, Sub.refl _, fun _ _ _ h => h, fun _ o h => ⟨o, of_mask h⟩, c.draw, c.ntF, c.tabs⟩
theorem Core.back (c : Core K W fr F H n) (d : Core K W (fr.at F H) F' H' n') : Core K W fr F' H' n' where
  sub := d.sub
  base := fun a o h1 h2 h3 => by
    have h := c.base a o h1 h2 h3
    obtain ⟨o', q, nt⟩ := c.there a o h1
    rw [h] at q; cases q
    exact d.base a o (mask_of h nt) h2 fun z => z
  f0 := c.f0.trans d.f0
  new := fun a o h1 h2 => by
    obtain ⟨o', q, nt⟩ := c.there a o h1
    exact d.new a o' (mask_of q nt) (c.new a o h1 h2)
  there := fun a o h => by
    obtain ⟨o', q, nt⟩ := c.there a o h
    exact d.there a o' (mask_of q nt)
  draw := d.draw
  ntF := d.ntF
  tabs := d.tabs
/-- the slots stand while what they lean on stands -/
theorem Slots.keep {ad : Nat → Addr} (s : Slots K W fr F H σ ρ ad) (c : Core K W fr F H n) (f : Sub F F') (h : ∀ a o, H a = some o → NT o → fr.dr ≠ some a → H' a = some o) (g : ∀ a o, H a = some o → NT o → F a = none → F' a = none) : Slots K W fr F' H' σ ρ ad where
  len := s.len
  val := fun i d e => by
    obtain ⟨v, h1, h2⟩ := s.val i d e
    exact ⟨v, h1, h2.mono f fun _ z => z⟩
  own := fun i d e => by
    obtain ⟨h1, h2, h3, h4, h5, h6⟩ := s.own i d e
    obtain ⟨o, q⟩ := h5.there
    exact ⟨h1, g _ _ q (h5.pl q).1 h2, h3, h4, h5.mono f fun o z => h _ o z (h5.pl z).1 h3, h6⟩
  inj := s.inj
theorem Rel.keep (r : Rel K W fr F H σ ρ n) (c : Core K W fr F' H' n') (f : Sub F F') (h : ∀ a o, H a = some o → NT o → fr.dr ≠ some a → H' a = some o) (g : ∀ a o, H a = some o → NT o → F a = none → F' a = none) : Rel K W fr F' H' σ ρ n' := by
  obtain ⟨ad, s⟩ := r.slots
  exact ⟨c, ad, s.keep r.core f h g⟩
theorem Rel.fresh (r : Rel K W fr F H σ ρ n) {p : Addr} {o : HO} (hp : H p = none) (ho : NT o := by (intro _ h; cases h)) : Rel K W fr (upd F p o) (upd H p o) σ ρ n :=
  r.keep (r.core.fresh hp ho) (r.core.sub.new hp) (fun a u h _ _ => by rw [upd_ne (ne_of_none h hp)]; exact h) fun a u h _ z => by rw [upd_ne (ne_of_none h hp)]; exact z
/-- behind a run that began here -/
theorem Rel.back (r : Rel K W fr F H σ ρ n) (d : Core K W (fr.at F H) F' H' n') : Rel K W fr F' H' σ ρ n' :=
  r.keep (r.core.back d) d.f0 (fun a o h nt z => d.base a o (mask_of h nt) z fun q => q) fun a o h nt z => d.new a o (mask_of h nt) z
end

/-! ### the judgements -/
theorem M.bind_err {α β : Type} {a : M α} {k : α → M β} {n n2 : Int} {z : Xc} (h : M.bind a k n = some (.error z, n2)) : a n = some (.error z, n2) ∨ ∃ x n1, a n = some (.ok x, n1) ∧ k x n1 = some (.error z, n2) := by
  unfold M.bind at h
  split at h
  · cases h
  · exact .inr ⟨_, _, ‹_›, h⟩
  · cases h; exact .inl ‹_›
theorem M.opt_err {α : Type} {o : Option α} {n n1 : Int} {z : Xc} (h : M.opt o n = some (.error z, n1)) : False := by
  unfold M.opt at h
  split at h <;> cases h
theorem M.pure_err {α : Type} {a : α} {n n1 : Int} {z : Xc} (h : M.pure a n = some (.error z, n1)) : False := by
  unfold M.pure at h; cases h
theorem M.bind_any {α β : Type} {a : M α} {k : α → M β} {n n2 : Int} {r : Except Xc β} (h : M.bind a k n = some (r, n2)) : (∃ z, a n = some (.error z, n2) ∧ r = .error z) ∨ ∃ x n1, a n = some (.ok x, n1) ∧ k x n1 = some (r, n2) := by
  unfold M.bind at h
  split at h
  · cases h
  · exact .inr ⟨_, _, ‹_›, h⟩
  · cases h; exact .inl ⟨_, ‹_›, rfl⟩
theorem M.pure_any {α : Type} {a : α} {n n1 : Int} {r : Except Xc α} (h : M.pure a n = some (r, n1)) : Except.ok a = r ∧ n1 = n := by
  unfold M.pure at h; cases h; exact ⟨rfl, rfl⟩
theorem M.opt_any {α : Type} {o : Option α} {n n1 : Int} {r : Except Xc α} (h : M.opt o n = some (r, n1)) : ∃ x, o = some x := by
  unfold M.opt at h
  split at h
  · cases h
  · exact ⟨_, rfl⟩
/-- what must not raise -/
def M.calm {α : Type} (a : M α) : M α := fun n => match a n with
  | some (.ok x, n1) => some (.ok x, n1)
  | _ => none
theorem M.calm_ok {α : Type} {a : M α} {n n1 : Int} {x : α} (h : M.calm a n = some (.ok x, n1)) : a n = some (.ok x, n1) := by
  unfold M.calm at h
  split at h
  · cases h; assumption
  · cases h
theorem M.calm_err {α : Type} {a : M α} {n n1 : Int} {z : Xc} (h : M.calm a n = some (.error z, n1)) : False := by
  unfold M.calm at h
  split at h <;> cases h
/-- an exception in the air that X takes -/
def Acc (X : Cx) (cls : Value) (d : Option Addr) (σ : St) (H : Hp) : Prop := Takes X fun c d' σ' H' => c = cls ∧ d' = d ∧ σ' = σ ∧ H' = H
theorem takesAcc {X : Cx} : Takes X (Acc X) := fun u s' ⟨a, B, sI, pins, σ, H, cls, d, e, I, nb, up, sky, na, os, ag, w⟩ =>
  w u s' ⟨a, B, sI, pins, σ, H, cls, d, e, I, nb, up, sky, na, os, ag, rfl, rfl, rfl, rfl⟩
theorem Acc.of {X : Cx} {Wt : WX} (tk : Takes X Wt) {cls : Value} {d : Option Addr} {σ : St} {H : Hp} (h : Wt cls d σ H) : Acc X cls d σ H := tk.imp fun c d' σ' H' ⟨a, b, c', d''⟩ => by
  subst a b c' d''; exact h
/-- an exception by its class and its fields -/
def XDen (K : PySem.W.Frag) (W : Wd) (dr : Option Addr) (F H : Hp) (z : Xc) (cls : Value) (d : Option Addr) : Prop :=
  cls = .ref (W.cl z.c) ∧ ((d = none ∧ z.ks = [] ∧ z.vs = []) ∨ ∃ a us, d = some a ∧ z.ks ≠ [] ∧ H a = some (.xd (z.ks.zip us)) ∧ z.ks.length = us.length ∧ Dens K W dr F us z.vs)
@[reducible] def Res {α : Type} (ok : α → Prop) (er : Xc → Prop) : Except Xc α → Prop
  | .ok x => ok x
  | .error z => er z
/-- what is wanted of an exception out of an expression; out of a statement -/
def KX (X : Cx) (W : Wd) (fr : Fr) (F : Hp) (σ : St) (ρ : Env) (n : Int) (z : Xc) : Prop := ∀ F' H' cls d, Rel X.K W fr F' H' σ ρ n → Sub F F' → XDen X.K W fr.dr F' H' z cls d → Acc X cls d σ H'
def KS (X : Cx) (W : Wd) (fr : Fr) (F : Hp) (n : Int) (z : Xc) : Prop := ∀ F' H' σ' cls d, Core X.K W fr F' H' n → Sub F F' → XDen X.K W fr.dr F' H' z cls d → Acc X cls d σ' H'
theorem KX.mono {X : Cx} {W : Wd} {fr : Fr} {F F1 : Hp} {σ : St} {ρ : Env} {n : Int} {z : Xc} (k : KX X W fr F σ ρ n z) (s : Sub F F1) : KX X W fr F1 σ ρ n z := fun F' H' cls d R s' x => k F' H' cls d R (s.trans s') x
theorem KS.mono {X : Cx} {W : Wd} {fr : Fr} {F F1 : Hp} {n : Int} {z : Xc} (k : KS X W fr F n z) (s : Sub F F1) : KS X W fr F1 n z := fun F' H' σ cls d R s' x => k F' H' σ cls d R (s.trans s') x
theorem KS.x {X : Cx} {W : Wd} {fr : Fr} {F : Hp} {σ : St} {ρ : Env} {n : Int} {z : Xc} (k : KS X W fr F n z) : KX X W fr F σ ρ n z := fun F' H' cls d R s' x => k F' H' σ cls d R.core s' x
def tD (X : Cx) (W : Wd) (f : EX) : TE := fun σ H Q => ∃ fr F ρ n r n', Rel X.K W fr F H σ ρ n ∧ f ρ n = some (r, n') ∧
  Res (fun d => ∀ F' H' v, Rel X.K W fr F' H' σ ρ n' → Sub F F' → Den X.K W fr.dr F' v d → Q v H') (KX X W fr F σ ρ n') r
def tDs (X : Cx) (W : Wd) (f : EXs) : TA := fun σ H Q => ∃ fr F ρ n r n', Rel X.K W fr F H σ ρ n ∧ f ρ n = some (r, n') ∧
  Res (fun ds => ∀ F' H' vs, Rel X.K W fr F' H' σ ρ n' → Sub F F' → Dens X.K W fr.dr F' vs ds → Q vs H') (KX X W fr F σ ρ n') r
def tT (X : Cx) (W : Wd) (f : TX) : TT := fun σ H Q => ∃ fr F ρ n r n', Rel X.K W fr F H σ ρ n ∧ f ρ n = some (r, n') ∧
  Res (fun b => ∀ F' H', Rel X.K W fr F' H' σ ρ n' → Sub F F' → Q b H') (KX X W fr F σ ρ n') r
def OutK (K : PySem.W.Frag) (W : Wd) (fr : Fr) (F : Hp) (E : Ends) : Out → Int → Prop
  | .nx ρ, n => ∀ F' H' σ', Rel K W fr F' H' σ' ρ n → Sub F F' → E.nx σ' H'
  | .bk ρ, n => ∀ F' H' σ', Rel K W fr F' H' σ' ρ n → Sub F F' → E.bk σ' H'
  | .ct ρ, n => ∀ F' H' σ', Rel K W fr F' H' σ' ρ n → Sub F F' → E.ct σ' H'
  | .ret d, n => ∀ F' H' v, Core K W fr F' H' n → Sub F F' → Den K W fr.dr F' v d → E.rt v H'
def tS (X : Cx) (W : Wd) (g : SX) : TS := fun E σ H => ∃ fr F ρ n r n', Rel X.K W fr F H σ ρ n ∧ g ρ n = some (r, n') ∧ Res (fun o => OutK X.K W fr F E o n') (KS X W fr F n') r
theorem OutK.mono {K : PySem.W.Frag} {W : Wd} {fr : Fr} {F F1 : Hp} {E : Ends} (s : Sub F F1) : ∀ {o : Out} {n : Int}, OutK K W fr F E o n → OutK K W fr F1 E o n
  | .nx _, _, k => fun F' H' σ' r q => k F' H' σ' r (s.trans q)
  | .bk _, _, k => fun F' H' σ' r q => k F' H' σ' r (s.trans q)
  | .ct _, _, k => fun F' H' σ' r q => k F' H' σ' r (s.trans q)
  | .ret _, _, k => fun F' H' v c q => k F' H' v c (s.trans q)
/-- a statement's ends, from further on -/
theorem resS_mono {X : Cx} {W : Wd} {fr : Fr} {F F1 : Hp} {E : Ends} {n : Int} (s : Sub F F1) : ∀ {r : Except Xc Out}, Res (fun o => OutK X.K W fr F E o n) (KS X W fr F n) r → Res (fun o => OutK X.K W fr F1 E o n) (KS X W fr F1 n) r
  | .ok _, k => OutK.mono s k
  | .error _, k => KS.mono k s

abbrev PD (X : Cx) (W : Wd) (e : Expr) (f : EX) : Prop := PE X e (tD X W f)
abbrev PDs (X : Cx) (W : Wd) (es : List Expr) (f : EXs) : Prop := PA X es (tDs X W f)
abbrev PDT (X : Cx) (W : Wd) (e : Expr) (f : TX) : Prop := PT X e (tT X W f)
abbrev PDW (X : Cx) (W : Wd) (e : Expr) (f : TX) : Prop := PW X e (tT X W f)
abbrev PDS (X : Cx) (W : Wd) (s : Stmt) (g : SX) : Prop := PS X s (tS X W g)
abbrev PDSs (X : Cx) (W : Wd) (s : List Stmt) (g : SX) : Prop := PSs X s (tS X W g)
section
variable {X : Cx} {W : Wd} {fr : Fr} {F H : Hp} {σ : St} {ρ : Env} {n n' : Int} {z : Xc} {β : Type}
/-- an error of a part, or of what follows it -/
theorem Rel.dE {f : EX} {g : D → M β} {Q : VK} (R : Rel X.K W fr F H σ ρ n) (e : M.bind (f ρ) g n = some (.error z, n')) (k : KX X W fr F σ ρ n' z) (go : ∀ x n1 F1 H1 v, f ρ n = some (.ok x, n1) → g x n1 = some (.error z, n') → Rel X.K W fr F1 H1 σ ρ n1 → Sub F F1 → Den X.K W fr.dr F1 v x → Q v H1) : tD X W f σ H Q := by
  rcases M.bind_err e with e1 | ⟨x, n1, e1, h⟩
  · exact ⟨fr, F, ρ, n, .error z, n', R, e1, k⟩
  · exact ⟨fr, F, ρ, n, .ok x, n1, R, e1, fun F1 H1 v R1 s1 d1 => go x n1 F1 H1 v e1 h R1 s1 d1⟩
theorem Rel.dsE {f : EXs} {g : List D → M β} {Q : List V → Hp → Prop} (R : Rel X.K W fr F H σ ρ n) (e : M.bind (f ρ) g n = some (.error z, n')) (k : KX X W fr F σ ρ n' z) (go : ∀ x n1 F1 H1 v, f ρ n = some (.ok x, n1) → g x n1 = some (.error z, n') → Rel X.K W fr F1 H1 σ ρ n1 → Sub F F1 → Dens X.K W fr.dr F1 v x → Q v H1) : tDs X W f σ H Q := by
  rcases M.bind_err e with e1 | ⟨x, n1, e1, h⟩
  · exact ⟨fr, F, ρ, n, .error z, n', R, e1, k⟩
  · exact ⟨fr, F, ρ, n, .ok x, n1, R, e1, fun F1 H1 v R1 s1 d1 => go x n1 F1 H1 v e1 h R1 s1 d1⟩
theorem Rel.tE {f : TX} {g : Bool → M β} {Q : Bool → Hp → Prop} (R : Rel X.K W fr F H σ ρ n) (e : M.bind (f ρ) g n = some (.error z, n')) (k : KX X W fr F σ ρ n' z) (go : ∀ x n1 F1 H1, f ρ n = some (.ok x, n1) → g x n1 = some (.error z, n') → Rel X.K W fr F1 H1 σ ρ n1 → Sub F F1 → Q x H1) : tT X W f σ H Q := by
  rcases M.bind_err e with e1 | ⟨x, n1, e1, h⟩
  · exact ⟨fr, F, ρ, n, .error z, n', R, e1, k⟩
  · exact ⟨fr, F, ρ, n, .ok x, n1, R, e1, fun F1 H1 R1 s1 => go x n1 F1 H1 e1 h R1 s1⟩
theorem Rel.sE {f : SX} {g : Out → M β} {E : Ends} (R : Rel X.K W fr F H σ ρ n) (e : M.bind (f ρ) g n = some (.error z, n')) (k : KS X W fr F n' z) (go : ∀ x n1, f ρ n = some (.ok x, n1) → g x n1 = some (.error z, n') → OutK X.K W fr F E x n1) : tS X W f E σ H := by
  rcases M.bind_err e with e1 | ⟨x, n1, e1, h⟩
  · exact ⟨fr, F, ρ, n, .error z, n', R, e1, k⟩
  · exact ⟨fr, F, ρ, n, .ok x, n1, R, e1, go x n1 e1 h⟩
/-- one part, then an operator -/
theorem Rel.dE1 {α : Type} {f : EX} {g : D → Option α} {Q : VK} (R : Rel X.K W fr F H σ ρ n) (e : M.bind (f ρ) (fun x => M.opt (g x)) n = some (.error z, n')) (k : KX X W fr F σ ρ n' z) : tD X W f σ H Q := R.dE e k fun _ _ _ _ _ _ h _ _ _ => (M.opt_err h).elim
theorem Rel.dsE1 {α : Type} {f : EXs} {g : List D → Option α} {Q : List V → Hp → Prop} (R : Rel X.K W fr F H σ ρ n) (e : M.bind (f ρ) (fun x => M.opt (g x)) n = some (.error z, n')) (k : KX X W fr F σ ρ n' z) : tDs X W f σ H Q := R.dsE e k fun _ _ _ _ _ _ h _ _ _ => (M.opt_err h).elim
end
theorem imp_E {X : Cx} {e : Expr} {t t' : TE} (h : PE X e t) (k : ∀ σ H Q, t' σ H Q → t σ H Q) : PE X e t' := ⟨fun pins s σ H Q I q => h.run pins s σ H Q I (k σ H Q q)⟩
theorem imp_T {X : Cx} {e : Expr} {t t' : TT} (h : PT X e t) (k : ∀ σ H Q, t' σ H Q → t σ H Q) : PT X e t' := ⟨fun pins s σ H Q I q => h.run pins s σ H Q I (k σ H Q q)⟩
theorem imp_W {X : Cx} {e : Expr} {t t' : TT} (h : PW X e t) (k : ∀ σ H Q, t' σ H Q → t σ H Q) : PW X e t' := ⟨fun w pins s σ H Q I q => h.run w pins s σ H Q I (k σ H Q q)⟩
theorem imp_A {X : Cx} {e : List Expr} {t t' : TA} (h : PA X e t) (k : ∀ σ H Q, t' σ H Q → t σ H Q) : PA X e t' := ⟨fun p pins s σ H Q I q => h.run p pins s σ H Q I (k σ H Q q)⟩
theorem imp_S {X : Cx} {e : Stmt} {t t' : TS} (h : PS X e t) (k : ∀ E σ H, t' E σ H → t E σ H) : PS X e t' := ⟨fun pins s σ H E I q => h.run pins s σ H E I (k E σ H q)⟩
theorem imp_Ss {X : Cx} {e : List Stmt} {t t' : TS} (h : PSs X e t) (k : ∀ E σ H, t' E σ H → t E σ H) : PSs X e t' := ⟨fun pins s σ H E I q => h.run pins s σ H E I (k E σ H q)⟩
end DL
end

section
set_option Elab.async false
set_option linter.all false
set_option autoImplicit false
set_option maxRecDepth 100000
namespace DL
open PySem PySem.Spec L2
section
variable {X : Cx} {W : Wd}

/-! ### names, constants -/
def eVar (i : Nat) : EX := fun ρ => M.opt (match ρ[i]? with | some (Sl.val d) => some d | _ => none)
theorem eVar_some {i : Nat} {ρ : Env} {n n1 : Int} {d : D} (h : eVar i ρ n = some (.ok d, n1)) : ρ[i]? = some (.val d) ∧ n1 = n := by
  unfold eVar at h
  obtain ⟨h1, h2⟩ := M.opt_ok h
  split at h1
  · cases h1; exact ⟨‹_›, h2⟩
  · cases h1
theorem d_var {e : Expr} {i : Nat} (h : PE X e (tVar i)) : PD X W e (eVar i) := imp_E h fun σ H Q ⟨fr, F, ρ, n, r, n', R, e, k⟩ => by
  rcases r with z | d
  · exact (M.opt_err e).elim
  obtain ⟨h1, h2⟩ := eVar_some e
  subst h2
  obtain ⟨ad, s⟩ := R.slots
  obtain ⟨v, h3, h4⟩ := s.val i d h1
  exact ⟨v, h3, k F H v R (Sub.refl _) h4⟩
theorem dv (i : Nat) {x : Str} {pos : Pos} (hN : X.N[i]? = some x := by rfl) (hv : Vis X.env.scope x := by first | exact Or.inl rfl | exact Or.inr (Or.inl rfl) | exact Or.inr (Or.inr rfl)) (hd : (x == ("__debug__" : Str)) = false := by decide)
    (hcd : (x == ("__classdict__" : Str)) = false := by decide) : PD X W (.Name x pos) (eVar i) := d_var (pe_var hN hv hd hcd)
def eC (d : D) : EX := fun _ => M.pure d
theorem d_con {e : Expr} {v : V} {d : D} (h : PE X e (tC v)) (hd : ∀ K W dr F, Den K W dr F v d) : PD X W e (eC d) := imp_E h fun σ H Q ⟨fr, F, ρ, n, r, n', R, e, k⟩ => by
  rcases r with z | d'
  · exact (M.pure_err e).elim
  obtain ⟨h1, h2⟩ := M.pure_ok e
  subst h1 h2
  exact k F H v R (Sub.refl _) (hd _ _ _ _)
theorem d_int {i j pos} : PD X W (.Constant (.int i) j pos) (eC (.int i)) := d_con pe_int fun _ _ _ _ => .int i
theorem d_bl {i j pos} : PD X W (.Constant (.bool i) j pos) (eC (.bl i)) := d_con pe_bl fun _ _ _ _ => .bl i
theorem d_non {j pos} : PD X W (.Constant .none j pos) (eC .non) := d_con pe_non fun _ _ _ _ => .non
theorem d_str {x j pos} : PD X W (.Constant (.str x) j pos) (eC (.str x)) := d_con pe_str fun _ _ _ _ => .str x
/-- a module's constant that is an int, a text, a bool -/
theorem d_glob {x : Str} {v : V} {u : Value} {pos : Pos} {d : D} (hg : Gl X x) (hm : X.mg x = some u) (r : RelV v u) (hd : ∀ K W dr F, Den K W dr F v d) (hx : (x == ("__debug__" : Str)) = false := by decide) : PD X W (.Name x pos) (eC d) := d_con (pe_glob hg hm r hx) hd

/-! ### lists of expressions -/
def eNil : EXs := fun _ => M.pure []
def eCons (f : EX) (g : EXs) : EXs := fun ρ => M.bind (f ρ) fun d => M.bind (g ρ) fun ds => M.pure (d :: ds)
theorem ds_nil : PDs X W [] eNil := imp_A pa_nil fun σ H Q ⟨fr, F, ρ, n, r, n', R, e, k⟩ => by
  rcases r with z | d
  · exact (M.pure_err e).elim
  obtain ⟨h1, h2⟩ := M.pure_ok e
  subst h1 h2
  exact k F H [] R (Sub.refl _) .nil
theorem ds_cons {e : Expr} {es : List Expr} {f : EX} {g : EXs} (he : PD X W e f) (hr : PDs X W es g) (hs : starEach (e :: es) X.env = (false, eval e X.env) :: starEach es X.env := by rfl) : PDs X W (e :: es) (eCons f g) :=
  imp_A (pa_cons he hr hs) fun σ H Q ⟨fr, F, ρ, n, r, n', R, e, k⟩ => by
    rcases r with z | ds
    · exact R.dE e k fun d n1 F1 H1 v e1 h R1 s1 d1 => R1.dsE h (k.mono s1) fun _ _ _ _ _ _ h _ _ _ => (M.pure_err h).elim
    obtain ⟨d, n1, h1, h⟩ := M.bind_ok e
    obtain ⟨ds', n2, h2, h⟩ := M.bind_ok h
    obtain ⟨h3, h4⟩ := M.pure_ok h
    subst h3 h4
    exact ⟨fr, F, ρ, n, .ok d, n1, R, h1, fun F1 H1 v R1 s1 d1 => ⟨fr, F1, ρ, n1, .ok ds', _, R1, h2, fun F2 H2 vs R2 s2 d2 => k F2 H2 _ R2 (s1.trans s2) (.cons (d1.mono s2 fun _ z => z) d2)⟩⟩

/-! ### displays -/
theorem Core.freshTup {K : PySem.W.Frag} {fr : Fr} {F H : Hp} {n : Int} {vs : List V} {ds : List D} {p : Addr} (h : Dens K W fr.dr F vs ds) (hp : F p = none) : Den K W fr.dr (upd F p (.tup vs)) (.ref p) (.tup ds) :=
  .tup (SqT.of upd_same) (h.mono (fun a u q => by rw [upd_ne (ne_of_none q hp)]; exact q) fun _ z => z)
def gz (ds : List D) : Bool := decide (ds.length ≤ sizeLine)
def mkTup (ds : List D) : Option D := if gz ds then some (.tup ds) else none
def mkLst (ds : List D) : Option D := if gz ds then some (.lst ds) else none
theorem mkTup_ok {ds : List D} {d : D} (h : mkTup ds = some d) : d = .tup ds ∧ ds.length ≤ sizeLine := by
  unfold mkTup at h
  split at h
  · rename_i q; cases h; exact ⟨rfl, of_decide_eq_true q⟩
  · cases h
theorem mkLst_ok {ds : List D} {d : D} (h : mkLst ds = some d) : d = .lst ds ∧ ds.length ≤ sizeLine := by
  unfold mkLst at h
  split at h
  · rename_i q; cases h; exact ⟨rfl, of_decide_eq_true q⟩
  · cases h
def eTup (f : EXs) : EX := fun ρ => M.bind (f ρ) fun ds => M.opt (mkTup ds)
def eLst (f : EXs) : EX := fun ρ => M.bind (f ρ) fun ds => M.opt (mkLst ds)
/-- a new tuple, a new list, handed on as known -/
theorem put_tup {K : PySem.W.Frag} {fr : Fr} {F H : Hp} {σ : St} {ρ : Env} {n : Int} {vs : List V} {ds : List D} {Q : VK} (R : Rel K W fr F H σ ρ n) (hd : Dens K W fr.dr F vs ds)
    (k : ∀ F' H' v, Rel K W fr F' H' σ ρ n → Sub F F' → Den K W fr.dr F' v (.tup ds) → Q v H') : ∀ p, H p = none → Q (.ref p) (upd H p (.tup vs)) := fun p hp =>
  k _ _ _ (R.fresh hp) (R.core.sub.new hp) (.tup (SqT.of upd_same) (hd.mono (R.core.sub.new hp) fun _ z => z))
theorem put_lst {K : PySem.W.Frag} {fr : Fr} {F H : Hp} {σ : St} {ρ : Env} {n : Int} {vs : List V} {ds : List D} {Q : VK} (R : Rel K W fr F H σ ρ n) (hd : Dens K W fr.dr F vs ds)
    (k : ∀ F' H' v, Rel K W fr F' H' σ ρ n → Sub F F' → Den K W fr.dr F' v (.lst ds) → Q v H') : ∀ p, H p = none → Q (.ref p) (upd H p (.lst vs)) := fun p hp =>
  k _ _ _ (R.fresh hp) (R.core.sub.new hp) (.lst upd_same (hd.mono (R.core.sub.new hp) fun _ z => z))
theorem d_tup {es : List Expr} {f : EXs} {x1 pos} (h : PDs X W es f) : PD X W (.Tuple es x1 pos) (eTup f) := imp_E (pe_tup h) fun σ H Q ⟨fr, F, ρ, n, r, n', R, e, k⟩ => by
  rcases r with z | d
  · exact R.dsE1 e k
  obtain ⟨ds, n1, h1, h⟩ := M.bind_ok e
  obtain ⟨h2, h3⟩ := M.opt_ok h
  obtain ⟨h4, h5⟩ := mkTup_ok h2
  subst h3 h4
  exact ⟨fr, F, ρ, n, .ok ds, _, R, h1, fun F1 H1 vs R1 s1 d1 => ⟨by rw [d1.length]; exact h5, put_tup R1 d1 fun F2 H2 v R2 s2 d2 => k F2 H2 v R2 (s1.trans s2) d2⟩⟩
theorem d_lst {es : List Expr} {f : EXs} {pos} (h : PDs X W es f) : PD X W (.List es pos) (eLst f) := imp_E (pe_lst h) fun σ H Q ⟨fr, F, ρ, n, r, n', R, e, k⟩ => by
  rcases r with z | d
  · exact R.dsE1 e k
  obtain ⟨ds, n1, h1, h⟩ := M.bind_ok e
  obtain ⟨h2, h3⟩ := M.opt_ok h
  obtain ⟨h4, h5⟩ := mkLst_ok h2
  subst h3 h4
  exact ⟨fr, F, ρ, n, .ok ds, _, R, h1, fun F1 H1 vs R1 s1 d1 => ⟨by rw [d1.length]; exact h5, put_lst R1 d1 fun F2 H2 v R2 s2 d2 => k F2 H2 v R2 (s1.trans s2) d2⟩⟩

/-! ### operators -/
def e2 (op : D → D → Option D) (fa fb : EX) : EX := fun ρ => M.bind (fa ρ) fun x => M.bind (fb ρ) fun y => M.opt (op x y)
/-- an operator over data -/
def Op2 (K : PySem.W.Frag) (W : Wd) (r : R2) (op : D → D → Option D) : Prop := ∀ (fr : Fr) (F H : Hp) (σ : St) (ρ : Env) (n : Int) (x y d : D) (v u : V) (Q : VK), Rel K W fr F H σ ρ n → Den K W fr.dr F v x → Den K W fr.dr F u y → op x y = some d →
  (∀ F' H' w, Rel K W fr F' H' σ ρ n → Sub F F' → Den K W fr.dr F' w d → Q w H') → r v u H Q
theorem d_tOp {r : R2} {op : D → D → Option D} {fa fb : EX} (hd : Op2 X.K W r op) {σ : St} {H : Hp} {Q : VK} (h : tD X W (e2 op fa fb) σ H Q) : tOp r (tD X W fa) (tD X W fb) σ H Q := by
  obtain ⟨fr, F, ρ, n, r, n', R, e, k⟩ := h
  rcases r with z | d
  · exact R.dE e k fun x n1 F1 H1 v e1 h R1 s1 d1 => R1.dE1 h (k.mono s1)
  obtain ⟨x, n1, h1, h⟩ := M.bind_ok e
  obtain ⟨y, n2, h2, h⟩ := M.bind_ok h
  obtain ⟨h3, h4⟩ := M.opt_ok h
  subst h4
  exact ⟨fr, F, ρ, n, .ok x, n1, R, h1, fun F1 H1 v R1 s1 d1 => ⟨fr, F1, ρ, n1, .ok y, _, R1, h2, fun F2 H2 u R2 s2 d2 => hd fr F2 H2 σ ρ _ x y d v u Q R2 (d1.mono s2 fun _ z => z) d2 h3 fun F3 H3 w R3 s3 d3 => k F3 H3 w R3 ((s1.trans s2).trans s3) d3⟩⟩
theorem d_op {a b : Expr} {fa fb : EX} {o : Operator} {r : R2} {op : D → D → Option D} {pos : Pos} (ho : OpR X (binaryOp o) r) (hd : Op2 X.K W r op) (ha : PD X W a fa) (hb : PD X W b fb) : PD X W (.BinOp a o b pos) (e2 op fa fb) := imp_E (pe_op ho ha hb) fun _ _ _ h => d_tOp hd h
theorem d_cmp {a b : Expr} {fa fb : EX} {o : CmpOp} {r : R2} {op : D → D → Option D} {pos : Pos} (ho : OpR X (compareOp o) r) (hd : Op2 X.K W r op) (ha : PD X W a fa) (hb : PD X W b fb) (hm : behindInMarks o b = false) : PD X W (.Compare a [o] [b] pos) (e2 op fa fb) := imp_E (pe_cmpR ho ha hb hm) fun _ _ _ h => d_tOp hd h

def dAdd : D → D → Option D
  | .int a, .int b => some (.int (a + b))
  | .str a, .str b => if a.length + b.length ≤ sizeLine then some (.str (a ++ b)) else none
  | .tup a, .tup b => mkTup (a ++ b)
  | .lst a, .lst b => mkLst (a ++ b)
  | _, _ => none
theorem dens_nil {K : PySem.W.Frag} {dr : Option Addr} {F : Hp} {vs : List V} (h : Dens K W dr F vs []) : vs = [] := by cases h; rfl
theorem dens_ne {K : PySem.W.Frag} {dr : Option Addr} {F : Hp} {vs : List V} {ds : List D} (h : Dens K W dr F vs ds) : vs = [] ↔ ds = [] := by
  cases h <;> simp
abbrev rAddD (K : PySem.W.Frag) : R2 := fun x y H Q => (((rI0 fun i j => .int (i + j)) x y H Q ∨ (∃ i j, x = .str i ∧ y = .str j ∧ i.length + j.length ≤ sizeLine ∧ Q (.str (i ++ j)) H)) ∨ rCatA K x y H Q) ∨ rCat x y H Q
theorem o_add : OpR X (binaryOp .Add) (rAddD X.K) := ((op_add.or op_add_str).or op_catA).or op_cat
theorem q_add {K : PySem.W.Frag} : Op2 K W (rAddD K) dAdd := by
  intro fr F H σ ρ n x y d v u Q R dx dy h k
  unfold dAdd at h
  split at h
  · cases dx; cases dy; cases h
    exact .inl (.inl (.inl ⟨_, _, rfl, rfl, k F H _ R (Sub.refl _) (.int _)⟩))
  · split at h
    · cases dx; cases dy; cases h
      exact .inl (.inl (.inr ⟨_, _, rfl, rfl, ‹_›, k F H _ R (Sub.refl _) (.str _)⟩))
    · cases h
  · obtain ⟨rfl, hz⟩ := mkTup_ok h
    cases dx with
    | tup hx rx =>
      cases dy with
      | tup hy ry =>
        refine .inl (.inr ⟨_, _, _, _, rfl, rfl, R.core.sub.sqT hx, R.core.sub.sqT hy, by rw [rx.length, ry.length, ← List.length_append]; exact hz, fun e => ?_, fun e1 e2 => ?_, fun e1 e2 => ?_⟩)
        · rw [(dens_ne rx).mp e, List.nil_append] at k
          exact k F H _ R (Sub.refl _) (.tup hy ry)
        · rw [(dens_ne ry).mp e2, List.append_nil] at k
          exact k F H _ R (Sub.refl _) (.tup hx rx)
        · exact put_tup R (rx.append ry) k
  · obtain ⟨rfl, hz⟩ := mkLst_ok h
    cases dx with
    | lst hx rx =>
      cases dy with
      | lst hy ry =>
        exact .inr ⟨_, _, _, _, rfl, rfl, R.core.sub _ _ hx, R.core.sub _ _ hy, by rw [rx.length, ry.length, ← List.length_append]; exact hz, put_lst R (rx.append ry) k⟩
  · cases h
theorem d_add {a b : Expr} {fa fb : EX} {pos : Pos} (ha : PD X W a fa) (hb : PD X W b fb) : PD X W (.BinOp a .Add b pos) (e2 dAdd fa fb) := d_op o_add q_add ha hb

/-- an operator of ints -/
def dI (C : Int → Int → Bool) (g : Int → Int → D) : D → D → Option D
  | .int a, .int b => if C a b then some (g a b) else none
  | _, _ => none
theorem q_I {K : PySem.W.Frag} {C : Int → Int → Prop} {D' : Int → Int → Bool} {g : Int → Int → V} {gd : Int → Int → D} (hC : ∀ i j, D' i j = true → C i j) (hg : ∀ K W dr F i j, Den K W dr F (g i j) (gd i j)) : Op2 K W (rI C g) (dI D' gd) := by
  intro fr F H σ ρ n x y d v u Q R dx dy h k
  unfold dI at h
  split at h
  · split at h
    · cases dx; cases dy; cases h
      exact ⟨_, _, rfl, rfl, hC _ _ ‹_›, k F H _ R (Sub.refl _) (hg _ _ _ _ _ _)⟩
    · cases h
  · cases h
theorem q_I0 {K : PySem.W.Frag} {g : Int → Int → V} {gd : Int → Int → D} (hg : ∀ K W dr F i j, Den K W dr F (g i j) (gd i j)) : Op2 K W (rI0 g) (dI (fun _ _ => true) gd) := by
  intro fr F H σ ρ n x y d v u Q R dx dy h k
  unfold dI at h
  split at h
  · cases dx; cases dy; cases h
    exact ⟨_, _, rfl, rfl, k F H _ R (Sub.refl _) (hg _ _ _ _ _ _)⟩
  · cases h
def dSub : D → D → Option D := dI (fun _ _ => true) fun i j => .int (i - j)
def small64 (i : Int) : Bool := decide (-(2 ^ 64) < i) && decide (i < 2 ^ 64)
def dMulI : D → D → Option D := dI (fun i j => small64 i || small64 j) fun i j => .int (i * j)
def dMod : D → D → Option D := dI (fun _ j => decide (0 < j)) fun i j => .int (i % j)
def dDiv : D → D → Option D := dI (fun _ j => decide (0 < j) && decide (j < 1073741824)) fun i j => .int (i / j)
def dPow : D → D → Option D := dI (fun i j => decide (0 ≤ j) && decide (j ≤ 1000000) && decide (i.natAbs < 2 ^ 64)) fun i j => .int (i ^ j.toNat)
theorem d_sub {a b : Expr} {fa fb : EX} {pos : Pos} (ha : PD X W a fa) (hb : PD X W b fb) : PD X W (.BinOp a .Sub b pos) (e2 dSub fa fb) := d_op op_sub (q_I0 fun _ _ _ _ _ _ => .int _) ha hb
theorem small64_ok {i : Int} (h : small64 i = true) : -(2 ^ 64) < i ∧ i < 2 ^ 64 := by
  unfold small64 at h
  simp only [Bool.and_eq_true, decide_eq_true_eq] at h
  exact h
theorem d_mulI {a b : Expr} {fa fb : EX} {pos : Pos} (ha : PD X W a fa) (hb : PD X W b fb) : PD X W (.BinOp a .Mult b pos) (e2 dMulI fa fb) := d_op op_mul (q_I (fun i j h => by
  rw [Bool.or_eq_true] at h
  exact h.imp small64_ok small64_ok) fun _ _ _ _ _ _ => .int _) ha hb
theorem d_mod {a b : Expr} {fa fb : EX} {pos : Pos} (ha : PD X W a fa) (hb : PD X W b fb) : PD X W (.BinOp a .Mod b pos) (e2 dMod fa fb) := d_op op_mod (q_I (fun i j h => of_decide_eq_true h) fun _ _ _ _ _ _ => .int _) ha hb
theorem d_div {a b : Expr} {fa fb : EX} {pos : Pos} (ha : PD X W a fa) (hb : PD X W b fb) : PD X W (.BinOp a .FloorDiv b pos) (e2 dDiv fa fb) := d_op op_fdiv (q_I (fun i j h => by
  simp only [Bool.and_eq_true, decide_eq_true_eq] at h
  exact h) fun _ _ _ _ _ _ => .int _) ha hb
theorem d_pow {a b : Expr} {fa fb : EX} {pos : Pos} (ha : PD X W a fa) (hb : PD X W b fb) : PD X W (.BinOp a .Pow b pos) (e2 dPow fa fb) := d_op op_pow (q_I (fun i j h => by
  simp only [Bool.and_eq_true, decide_eq_true_eq] at h
  exact ⟨h.1.1, h.1.2, h.2⟩) fun _ _ _ _ _ _ => .int _) ha hb

/-! ### comparisons -/
def strLt (a b : Str) : Bool := decide (a.cps.toList < b.cps.toList)
def strLe (a b : Str) : Bool := !decide (b.cps.toList < a.cps.toList)
def dLt : D → D → Option D
  | .int a, .int b => some (.bl (decide (a < b)))
  | .str a, .str b => some (.bl (strLt a b))
  | _, _ => none
theorem d_lt {a b : Expr} {fa fb : EX} {pos : Pos} (ha : PD X W a fa) (hb : PD X W b fb) : PD X W (.Compare a [.Lt] [b] pos) (e2 dLt fa fb) := d_cmp (op_lt.or op_lt_str) (by
  intro fr F H σ ρ n x y d v u Q R dx dy h k
  unfold dLt at h
  split at h
  · cases dx; cases dy; cases h
    exact .inl ⟨_, _, rfl, rfl, k F H _ R (Sub.refl _) (.bl _)⟩
  · cases dx; cases dy; cases h
    exact .inr ⟨_, _, rfl, rfl, k F H _ R (Sub.refl _) (.bl _)⟩
  · cases h) ha hb (nomark _)
def dCI (p : Int → Int → Bool) : D → D → Option D := dI (fun _ _ => true) fun i j => .bl (p i j)
abbrev dLe := dCI fun i j => decide (i ≤ j)
abbrev dGt := dCI fun i j => decide (j < i)
abbrev dGe := dCI fun i j => decide (j ≤ i)
theorem d_le {a b : Expr} {fa fb : EX} {pos : Pos} (ha : PD X W a fa) (hb : PD X W b fb) : PD X W (.Compare a [.LtE] [b] pos) (e2 dLe fa fb) := d_cmp op_le (q_I0 fun _ _ _ _ _ _ => .bl _) ha hb (nomark _)
theorem d_gt {a b : Expr} {fa fb : EX} {pos : Pos} (ha : PD X W a fa) (hb : PD X W b fb) : PD X W (.Compare a [.Gt] [b] pos) (e2 dGt fa fb) := d_cmp op_gt (q_I0 fun _ _ _ _ _ _ => .bl _) ha hb (nomark _)
theorem d_ge {a b : Expr} {fa fb : EX} {pos : Pos} (ha : PD X W a fa) (hb : PD X W b fb) : PD X W (.Compare a [.GtE] [b] pos) (e2 dGe fa fb) := d_cmp op_ge (q_I0 fun _ _ _ _ _ _ => .bl _) ha hb (nomark _)

mutual
def toPy : D → Option PyData
  | .non => some .none
  | .bl b => some (.bool b)
  | .int i => some (.int i)
  | .str x => some (.str x)
  | .tup xs => match toPys xs with | some ys => some (.tuple ys) | none => none
  | .lst xs => match toPys xs with | some ys => some (.list ys) | none => none
  | _ => none
def toPys : List D → Option (List PyData)
  | [] => some []
  | x :: xs => match toPy x, toPys xs with | some y, some ys => some (y :: ys) | _, _ => none
end
mutual
theorem dp_of {K : PySem.W.Frag} {dr : Option Addr} {F H : Hp} (s : Sub F H) : ∀ {v : V} {d : D} {p : PyData}, Den K W dr F v d → toPy d = some p → Dp K H v p
  | _, _, _, .non, h => by unfold toPy at h; cases h; exact .non
  | _, _, _, .bl b, h => by unfold toPy at h; cases h; exact .bl b
  | _, _, _, .int b, h => by unfold toPy at h; cases h; exact .int b
  | _, _, _, .str b, h => by unfold toPy at h; cases h; exact .str b
  | _, _, _, .tup h1 h2, h => by
    unfold toPy at h
    split at h
    · cases h; exact .tup (s.sqT h1) (dps_of s h2 ‹_›)
    · cases h
  | _, _, _, .lst h1 h2, h => by
    unfold toPy at h
    split at h
    · cases h; exact .lst (SqL.of (s _ _ h1)) (dps_of s h2 ‹_›)
    · cases h
  | _, _, _, .scr _, h => by simp [toPy] at h
  | _, _, _, .dic _ _ _, h => by simp [toPy] at h
  | _, _, _, .dit _ _ _, h => by simp [toPy] at h
  | _, _, _, .obj _ _ _, h => by simp [toPy] at h
  | _, _, _, .drw _, h => by simp [toPy] at h
theorem dps_of {K : PySem.W.Frag} {dr : Option Addr} {F H : Hp} (s : Sub F H) : ∀ {vs : List V} {ds : List D} {ps : List PyData}, Dens K W dr F vs ds → toPys ds = some ps → DpAll K H vs ps
  | _, _, _, .nil, h => by unfold toPys at h; cases h; exact .nil
  | _, _, _, .cons h1 h2, h => by
    unfold toPys at h
    split at h
    · cases h; exact .cons (dp_of s h1 ‹_›) (dps_of s h2 ‹_›)
    · cases h
end
def dEqB (x y : D) : Option Bool := match toPy x, toPy y with
  | some a, some b => if SeqAt.shaped a && SeqAt.shaped b then some (PyData.eqv a b) else none
  | _, _ => none
def dEq (x y : D) : Option D := match dEqB x y with | some b => some (.bl b) | none => none
def dNe (x y : D) : Option D := match dEqB x y with | some b => some (.bl (!b)) | none => none
theorem dEqB_ok {x y : D} {b : Bool} (h : dEqB x y = some b) : ∃ p q, toPy x = some p ∧ toPy y = some q ∧ SeqAt.shaped p = true ∧ SeqAt.shaped q = true ∧ b = PyData.eqv p q := by
  unfold dEqB at h
  split at h
  · split at h
    · rename_i a b h1 h2 hs
      rw [Bool.and_eq_true] at hs
      cases h
      exact ⟨_, _, h1, h2, hs.1, hs.2, rfl⟩
    · cases h
  · cases h
theorem d_eq {a b : Expr} {fa fb : EX} {pos : Pos} (hu : X.A.units + 64 < cLine) (ha : PD X W a fa) (hb : PD X W b fb) : PD X W (.Compare a [.Eq] [b] pos) (e2 dEq fa fb) := d_cmp (op_eqD hu) (by
  intro fr F H σ ρ n x y d v u Q R dx dy h k
  unfold dEq at h
  split at h
  · cases h
    obtain ⟨p, q, h1, h2, h3, h4, rfl⟩ := dEqB_ok ‹_›
    exact ⟨p, q, dp_of R.core.sub dx h1, dp_of R.core.sub dy h2, h3, h4, k F H _ R (Sub.refl _) (.bl _)⟩
  · cases h) ha hb (nomark _)
theorem d_ne {a b : Expr} {fa fb : EX} {pos : Pos} (hu : X.A.units + 64 < cLine) (ha : PD X W a fa) (hb : PD X W b fb) : PD X W (.Compare a [.NotEq] [b] pos) (e2 dNe fa fb) := d_cmp (op_neD hu) (by
  intro fr F H σ ρ n x y d v u Q R dx dy h k
  unfold dNe at h
  split at h
  · cases h
    obtain ⟨p, q, h1, h2, h3, h4, rfl⟩ := dEqB_ok ‹_›
    exact ⟨p, q, dp_of R.core.sub dx h1, dp_of R.core.sub dy h2, h3, h4, k F H _ R (Sub.refl _) (.bl _)⟩
  · cases h) ha hb (nomark _)
/-- is None -/
def e1 (op : D → Option D) (fa : EX) : EX := fun ρ => M.bind (fa ρ) fun x => M.opt (op x)
def isNon : D → Bool | .non => true | _ => false
theorem isNon_of {K : PySem.W.Frag} {dr : Option Addr} {F : Hp} {v : V} {d : D} (h : Den K W dr F v d) : decide (v = .non) = isNon d := by
  cases h <;> simp [isNon]
theorem d_isN {a : Expr} {fa : EX} {j p pos} (ha : PD X W a fa) : PD X W (.Compare a [.Is] [.Constant .none j p] pos) (e1 (fun d => some (.bl (isNon d))) fa) := imp_E (pe_cmp (pc_isN ha) rfl) fun σ H Q ⟨fr, F, ρ, n, r, n', R, e, k⟩ => by
  rcases r with z | d
  · exact R.dE1 e k
  obtain ⟨x, n1, h1, h⟩ := M.bind_ok e
  obtain ⟨h2, h3⟩ := M.opt_ok h
  subst h3; cases h2
  exact ⟨fr, F, ρ, n, .ok x, _, R, h1, fun F1 H1 v R1 s1 d1 => by show Q _ H1; rw [isNon_of d1]; exact k F1 H1 _ R1 s1 (.bl _)⟩
theorem d_notN {a : Expr} {fa : EX} {j p pos} (ha : PD X W a fa) : PD X W (.Compare a [.IsNot] [.Constant .none j p] pos) (e1 (fun d => some (.bl (!isNon d))) fa) := imp_E (pe_cmp (pc_notN ha) rfl) fun σ H Q ⟨fr, F, ρ, n, r, n', R, e, k⟩ => by
  rcases r with z | d
  · exact R.dE1 e k
  obtain ⟨x, n1, h1, h⟩ := M.bind_ok e
  obtain ⟨h2, h3⟩ := M.opt_ok h
  subst h3; cases h2
  exact ⟨fr, F, ρ, n, .ok x, _, R, h1, fun F1 H1 v R1 s1 d1 => by show Q _ H1; rw [isNon_of d1]; exact k F1 H1 _ R1 s1 (.bl _)⟩
/-- unary minus -/
def dNeg : D → Option D | .int i => some (.int (-i)) | _ => none
theorem d_neg {a : Expr} {fa : EX} {pos : Pos} (ha : PD X W a fa) : PD X W (.UnaryOp .USub a pos) (e1 dNeg fa) := imp_E (pe_un un_neg ha) fun σ H Q ⟨fr, F, ρ, n, r, n', R, e, k⟩ => by
  rcases r with z | d
  · exact R.dE1 e k
  obtain ⟨x, n1, h1, h⟩ := M.bind_ok e
  obtain ⟨h2, h3⟩ := M.opt_ok h
  subst h3
  refine ⟨fr, F, ρ, n, .ok x, _, R, h1, fun F1 H1 v R1 s1 d1 => ?_⟩
  unfold dNeg at h2
  split at h2
  · cases h2; cases d1
    exact ⟨_, rfl, k F1 H1 _ R1 s1 (.int _)⟩
  · cases h2
end
end DL
end

section
set_option Elab.async false
set_option linter.all false
set_option autoImplicit false
set_option maxRecDepth 100000
namespace DL
open PySem PySem.Spec L2
section
variable {X : Cx} {W : Wd}

/-! ### truth, tests -/
def dTru : D → Option Bool
  | .non => some false
  | .bl b => some b
  | .int i => some (i != 0)
  | .str x => if x.length ≤ sizeLine then some ((x.length : Int) != 0) else none
  | .tup xs => some (!xs.isEmpty)
  | .lst xs => some (!xs.isEmpty)
  | .scr => none
  | .dic _ _ => none
  | .dit _ _ => none
  | .obj _ _ _ => none
  | .drw => none
theorem tru_of {K : PySem.W.Frag} {dr : Option Addr} {F H : Hp} (s : Sub F H) {v : V} {d : D} {b : Bool} (h : Den K W dr F v d) (e : dTru d = some b) : TruV K v H b := by
  cases h with
  | non => cases e; rfl
  | bl b => cases e; rfl
  | int i => cases e; rfl
  | str x =>
    unfold dTru at e
    split at e <;> simp_all [TruV]
  | tup h1 h2 =>
    cases e
    exact .inr (.inl ⟨_, s.sqT h1, by cases h2 <;> rfl⟩)
  | lst h1 h2 =>
    cases e
    exact .inl ⟨_, SqL.of (s _ _ h1), by cases h2 <;> rfl⟩
  | scr _ => cases e
  | dic _ _ _ => cases e
  | dit _ _ _ => cases e
  | obj _ _ _ => cases e
  | drw _ => cases e
/-- the truth of a value, as a test -/
def tTru (f : EX) : TX := fun ρ => M.bind (f ρ) fun d => M.opt (dTru d)
theorem t_tru {a : Expr} {f : EX} (ha : PD X W a f) (he : ∀ whole, isTrue a X.env whole = (do let v ← whole; standAt a.pos; holding [v] (truthy v)) := by intro _; rfl) : PDT X W a (tTru f) := imp_T (pt_truth ha he) fun σ H Q ⟨fr, F, ρ, n, r, n', R, e, k⟩ => by
  rcases r with z | b
  · exact R.dE1 e k
  obtain ⟨x, n1, h1, h⟩ := M.bind_ok e
  obtain ⟨h2, h3⟩ := M.opt_ok h
  subst h3
  exact ⟨fr, F, ρ, n, .ok x, _, R, h1, fun F1 H1 v R1 s1 d1 => ⟨b, tru_of R1.core.sub d1 h2, k F1 H1 R1 s1⟩⟩
/-- a comparison as a test -/
def dBool : D → Option Bool | .bl b => some b | _ => none
def tB (f : EX) : TX := fun ρ => M.bind (f ρ) fun d => M.opt (dBool d)
theorem t_test {t : TE} {f : EX} (h : ∀ σ H Q, tD X W f σ H Q → t σ H Q) {σ : St} {H : Hp} {Q : Bool → Hp → Prop} (h' : tT X W (tB f) σ H Q) : tTest t σ H Q := by
  obtain ⟨fr, F, ρ, n, r, n', R, e, k⟩ := h'
  rcases r with z | b
  · exact h σ H _ (R.dE1 e k)
  obtain ⟨x, n1, h1, h2⟩ := M.bind_ok e
  obtain ⟨h3, h4⟩ := M.opt_ok h2
  subst h4
  refine h σ H _ ⟨fr, F, ρ, n, .ok x, _, R, h1, fun F1 H1 v R1 s1 d1 => ?_⟩
  unfold dBool at h3
  split at h3
  · cases h3; cases d1; exact ⟨_, rfl, k F1 H1 R1 s1⟩
  · cases h3
theorem t_cmp {a b : Expr} {fa fb : EX} {o : CmpOp} {r : R2} {op : D → D → Option D} {pos : Pos} (ho : OpR X (compareOp o) r) (hd : Op2 X.K W r op) (ha : PD X W a fa) (hb : PD X W b fb) (hm : behindInMarks o b = false) : PDT X W (.Compare a [o] [b] pos) (tB (e2 op fa fb)) := imp_T (pt_cmpR ho ha hb hm) fun σ H Q h => t_test (fun _ _ _ => d_tOp hd) h
def eChain (o1 o2 : D → D → Option D) (fa fb fc : EX) : EX := fun ρ => M.bind (fa ρ) fun x => M.bind (fb ρ) fun y => M.bind (M.opt (o1 x y)) fun r => match r with
  | .bl true => M.bind (fc ρ) fun z => M.opt (o2 y z)
  | .bl false => M.pure (.bl false)
  | _ => M.opt none
theorem d_tChain {r r' : R2} {o1 o2 : D → D → Option D} {fa fb fc : EX} (h1 : Op2 X.K W r o1) (h2 : Op2 X.K W r' o2) {σ : St} {H : Hp} {Q : VK} (h : tD X W (eChain o1 o2 fa fb fc) σ H Q) : tChain r r' (tD X W fa) (tD X W fb) (tD X W fc) σ H Q := by
  obtain ⟨fr, F, ρ, n, r, n', R, e, k⟩ := h
  rcases r with z | d
  · refine R.dE e k fun x n1 F1 H1 v e1 h R1 s1 d1 => R1.dE h (k.mono s1) fun y n2 F2 H2 u e2 h R2 s2 d2 => ?_
    rcases M.bind_err h with h9 | ⟨t, n3, e3, h9⟩
    · exact (M.opt_err h9).elim
    obtain ⟨e4, e5⟩ := M.opt_ok e3
    subst e5
    clear h
    refine h1 fr F2 H2 σ ρ _ x y t v u _ R2 (d1.mono s2 fun _ z => z) d2 e4 fun F3 H3 w R3 s3 d3 => ?_
    split at h9
    · cases d3
      refine ⟨true, rfl, ?_⟩
      rw [if_pos rfl]
      exact R3.dE1 h9 ((k.mono (s1.trans s2)).mono s3)
    · exact (M.pure_err h9).elim
    · exact (M.opt_err h9).elim
  obtain ⟨x, n1, e1, ha⟩ := M.bind_ok e
  obtain ⟨y, n2, e2, hb⟩ := M.bind_ok ha
  obtain ⟨z, n3, e3, h⟩ := M.bind_ok hb
  obtain ⟨e4, e5⟩ := M.opt_ok e3
  clear ha hb
  subst e5
  refine ⟨fr, F, ρ, n, .ok x, n1, R, e1, fun F1 H1 v R1 s1 d1 => ⟨fr, F1, ρ, n1, .ok y, _, R1, e2, fun F2 H2 u R2 s2 d2 => ?_⟩⟩
  refine h1 fr F2 H2 σ ρ _ x y z v u _ R2 (d1.mono s2 fun _ z => z) d2 e4 fun F3 H3 w R3 s3 d3 => ?_
  split at h
  · cases d3
    refine ⟨true, rfl, ?_⟩
    rw [if_pos rfl]
    obtain ⟨t, n4, e6, h⟩ := M.bind_ok h
    obtain ⟨e7, e8⟩ := M.opt_ok h
    subst e8
    exact ⟨fr, F3, ρ, _, .ok t, _, R3, e6, fun F4 H4 w' R4 s4 d4 => h2 fr F4 H4 σ ρ _ y t d u w' Q R4 (d2.mono (s3.trans s4) fun _ z => z) d4 e7 fun F5 H5 w5 R5 s5 d5 => k F5 H5 w5 R5 ((((s1.trans s2).trans s3).trans s4).trans s5) d5⟩
  · cases d3
    refine ⟨false, rfl, ?_⟩
    rw [if_neg Bool.false_ne_true]
    obtain ⟨e6, e7⟩ := M.pure_ok h
    subst e6 e7
    exact k F3 H3 _ R3 ((s1.trans s2).trans s3) (.bl _)
  · obtain ⟨q, _⟩ := M.opt_ok h
    cases q
theorem d_chain {a b c : Expr} {fa fb fc : EX} {p q : CmpOp} {r r' : R2} {o1 o2 : D → D → Option D} {pos : Pos} (ho : OpR X (compareOp p) r) (ho' : OpR X (compareOp q) r') (h1 : Op2 X.K W r o1) (h2 : Op2 X.K W r' o2) (ha : PD X W a fa) (hb : PD X W b fb) (hc : PD X W c fc)
    (hm : lastMarks [p, q] [b, c] = false := by with_unfolding_all rfl) : PD X W (.Compare a [p, q] [b, c] pos) (eChain o1 o2 fa fb fc) := imp_E (pe_chain ho ho' ha hb hc hm) fun _ _ _ h => d_tChain h1 h2 h
theorem t_chain {a b c : Expr} {fa fb fc : EX} {p q : CmpOp} {r r' : R2} {o1 o2 : D → D → Option D} {pos : Pos} (ho : OpR X (compareOp p) r) (ho' : OpR X (compareOp q) r') (h1 : Op2 X.K W r o1) (h2 : Op2 X.K W r' o2) (ha : PD X W a fa) (hb : PD X W b fb) (hc : PD X W c fc)
    (hm : lastMarks [p, q] [b, c] = false := by with_unfolding_all rfl) : PDT X W (.Compare a [p, q] [b, c] pos) (tB (eChain o1 o2 fa fb fc)) := imp_T (pt_chain ho ho' ha hb hc hm) fun _ _ _ h => t_test (fun _ _ _ => d_tChain h1 h2) h
/-- and, or, not, as tests -/
def tAndD (t u : TX) : TX := fun ρ => M.bind (t ρ) fun b => match b with | true => u ρ | false => M.pure false
def tOrD (t u : TX) : TX := fun ρ => M.bind (t ρ) fun b => match b with | true => M.pure true | false => u ρ
def tNotD (t : TX) : TX := fun ρ => M.bind (t ρ) fun b => M.pure (!b)
theorem w_and1 {a : Expr} {t : TX} {pos : Pos} (h : PDT X W a t) : PDW X W (.BoolOp .And [a] pos) t := pw_and1 h
theorem w_or1 {a : Expr} {t : TX} {pos : Pos} (h : PDT X W a t) : PDW X W (.BoolOp .Or [a] pos) t := pw_or1 h
theorem tAnd_of {t u : TX} {σ : St} {H : Hp} {Q : Bool → Hp → Prop} (h : tT X W (tAndD t u) σ H Q) : tAnd (tT X W t) (tT X W u) σ H Q := by
  obtain ⟨fr, F, ρ, n, r, n', R, e, k⟩ := h
  rcases r with z | b
  · refine R.tE e k fun b n1 F1 H1 e1 h R1 s1 => ?_
    cases b with
    | false => exact (M.pure_err h).elim
    | true =>
      rw [if_pos rfl]
      exact ⟨fr, F1, ρ, n1, .error z, n', R1, h, k.mono s1⟩
  obtain ⟨x, n1, e1, h⟩ := M.bind_ok e
  refine ⟨fr, F, ρ, n, .ok x, n1, R, e1, fun F1 H1 R1 s1 => ?_⟩
  cases x with
  | true =>
    rw [if_pos rfl]
    exact ⟨fr, F1, ρ, n1, .ok b, n', R1, h, fun F2 H2 R2 s2 => k F2 H2 R2 (s1.trans s2)⟩
  | false =>
    rw [if_neg Bool.false_ne_true]
    obtain ⟨e6, e7⟩ := M.pure_ok h
    subst e6 e7
    exact k F1 H1 R1 s1
theorem tOr_of {t u : TX} {σ : St} {H : Hp} {Q : Bool → Hp → Prop} (h : tT X W (tOrD t u) σ H Q) : tOr (tT X W t) (tT X W u) σ H Q := by
  obtain ⟨fr, F, ρ, n, r, n', R, e, k⟩ := h
  rcases r with z | b
  · refine R.tE e k fun b n1 F1 H1 e1 h R1 s1 => ?_
    cases b with
    | true => exact (M.pure_err h).elim
    | false =>
      rw [if_neg Bool.false_ne_true]
      exact ⟨fr, F1, ρ, n1, .error z, n', R1, h, k.mono s1⟩
  obtain ⟨x, n1, e1, h⟩ := M.bind_ok e
  refine ⟨fr, F, ρ, n, .ok x, n1, R, e1, fun F1 H1 R1 s1 => ?_⟩
  cases x with
  | false =>
    rw [if_neg Bool.false_ne_true]
    exact ⟨fr, F1, ρ, n1, .ok b, n', R1, h, fun F2 H2 R2 s2 => k F2 H2 R2 (s1.trans s2)⟩
  | true =>
    rw [if_pos rfl]
    obtain ⟨e6, e7⟩ := M.pure_ok h
    subst e6 e7
    exact k F1 H1 R1 s1
theorem w_and {a b : Expr} {r : List Expr} {t u : TX} {pos : Pos} (h : PDT X W a t) (h' : PDW X W (.BoolOp .And (b :: r) pos) u) : PDW X W (.BoolOp .And (a :: b :: r) pos) (tAndD t u) := imp_W (pw_and h h') fun _ _ _ => tAnd_of
theorem w_or {a b : Expr} {r : List Expr} {t u : TX} {pos : Pos} (h : PDT X W a t) (h' : PDW X W (.BoolOp .Or (b :: r) pos) u) : PDW X W (.BoolOp .Or (a :: b :: r) pos) (tOrD t u) := imp_W (pw_or h h') fun _ _ _ => tOr_of
theorem t_w {e : Expr} {t : TX} (h : PDW X W e t) : PDT X W e t := h.pt
theorem t_not {a : Expr} {t : TX} {pos : Pos} (h : PDT X W a t) : PDT X W (.UnaryOp .Not a pos) (tNotD t) := imp_T (pt_not h) fun σ H Q ⟨fr, F, ρ, n, r, n', R, e, k⟩ => by
  rcases r with z | b
  · exact R.tE e k fun _ _ _ _ _ h _ _ => (M.pure_err h).elim
  obtain ⟨x, n1, e1, h⟩ := M.bind_ok e
  obtain ⟨e6, e7⟩ := M.pure_ok h
  subst e6 e7
  exact ⟨fr, F, ρ, n, .ok x, _, R, e1, fun F1 H1 R1 s1 => k F1 H1 R1 s1⟩
/-- and, or, not, as values -/
def eAnd (f g : EX) : EX := fun ρ => M.bind (f ρ) fun d => M.bind (M.opt (dTru d)) fun b => match b with | true => g ρ | false => M.pure d
def eOr (f g : EX) : EX := fun ρ => M.bind (f ρ) fun d => M.bind (M.opt (dTru d)) fun b => match b with | true => M.pure d | false => g ρ
def eNot (f : EX) : EX := fun ρ => M.bind (f ρ) fun d => M.bind (M.opt (dTru d)) fun b => M.pure (.bl (!b))
theorem d_one {a : Expr} {f : EX} {o : BoolOp} {pos : Pos} (h : PD X W a f) : PD X W (.BoolOp o [a] pos) f := pe_one h
theorem d_and {a b : Expr} {r : List Expr} {f g : EX} {pos : Pos} (h : PD X W a f) (h' : PD X W (.BoolOp .And (b :: r) pos) g) : PD X W (.BoolOp .And (a :: b :: r) pos) (eAnd f g) := imp_E (pe_andT h h') fun σ H Q ⟨fr, F, ρ, n, r, n', R, e, k⟩ => by
  rcases r with z | d
  · refine R.dE e k fun x n1 F1 H1 v e1 h R1 s1 d1 => ?_
    rcases M.bind_err h with h | ⟨b, n2, e2, h⟩
    · exact (M.opt_err h).elim
    obtain ⟨e3, e4⟩ := M.opt_ok e2
    subst e4
    refine ⟨b, tru_of R1.core.sub d1 e3, ?_⟩
    cases b with
    | false => exact (M.pure_err h).elim
    | true =>
      rw [if_pos rfl]
      exact ⟨fr, F1, ρ, _, .error z, n', R1, h, k.mono s1⟩
  obtain ⟨x, n1, e1, ha⟩ := M.bind_ok e
  obtain ⟨b, n2, e2, h⟩ := M.bind_ok ha
  obtain ⟨e3, e4⟩ := M.opt_ok e2
  clear ha
  subst e4
  refine ⟨fr, F, ρ, n, .ok x, _, R, e1, fun F1 H1 v R1 s1 d1 => ⟨b, tru_of R1.core.sub d1 e3, ?_⟩⟩
  cases b with
  | true =>
    rw [if_pos rfl]
    exact ⟨fr, F1, ρ, _, .ok d, n', R1, h, fun F2 H2 u R2 s2 d2 => k F2 H2 u R2 (s1.trans s2) d2⟩
  | false =>
    rw [if_neg Bool.false_ne_true]
    obtain ⟨e6, e7⟩ := M.pure_ok h
    subst e6 e7
    exact k F1 H1 v R1 s1 d1
theorem d_or {a b : Expr} {r : List Expr} {f g : EX} {pos : Pos} (h : PD X W a f) (h' : PD X W (.BoolOp .Or (b :: r) pos) g) : PD X W (.BoolOp .Or (a :: b :: r) pos) (eOr f g) := imp_E (pe_orT h h') fun σ H Q ⟨fr, F, ρ, n, r, n', R, e, k⟩ => by
  rcases r with z | d
  · refine R.dE e k fun x n1 F1 H1 v e1 h R1 s1 d1 => ?_
    rcases M.bind_err h with h | ⟨b, n2, e2, h⟩
    · exact (M.opt_err h).elim
    obtain ⟨e3, e4⟩ := M.opt_ok e2
    subst e4
    refine ⟨b, tru_of R1.core.sub d1 e3, ?_⟩
    cases b with
    | true => exact (M.pure_err h).elim
    | false =>
      rw [if_neg Bool.false_ne_true]
      exact ⟨fr, F1, ρ, _, .error z, n', R1, h, k.mono s1⟩
  obtain ⟨x, n1, e1, ha⟩ := M.bind_ok e
  obtain ⟨b, n2, e2, h⟩ := M.bind_ok ha
  obtain ⟨e3, e4⟩ := M.opt_ok e2
  clear ha
  subst e4
  refine ⟨fr, F, ρ, n, .ok x, _, R, e1, fun F1 H1 v R1 s1 d1 => ⟨b, tru_of R1.core.sub d1 e3, ?_⟩⟩
  cases b with
  | false =>
    rw [if_neg Bool.false_ne_true]
    exact ⟨fr, F1, ρ, _, .ok d, n', R1, h, fun F2 H2 u R2 s2 d2 => k F2 H2 u R2 (s1.trans s2) d2⟩
  | true =>
    rw [if_pos rfl]
    obtain ⟨e6, e7⟩ := M.pure_ok h
    subst e6 e7
    exact k F1 H1 v R1 s1 d1
theorem d_not {a : Expr} {f : EX} {pos : Pos} (h : PD X W a f) : PD X W (.UnaryOp .Not a pos) (eNot f) := imp_E (pe_notT h) fun σ H Q ⟨fr, F, ρ, n, r, n', R, e, k⟩ => by
  rcases r with z | d
  · refine R.dE e k fun x n1 F1 H1 v e1 h R1 s1 d1 => ?_
    rcases M.bind_err h with h | ⟨b, n2, e2, h⟩
    · exact (M.opt_err h).elim
    · exact (M.pure_err h).elim
  obtain ⟨x, n1, e1, ha⟩ := M.bind_ok e
  obtain ⟨b, n2, e2, h⟩ := M.bind_ok ha
  obtain ⟨e3, e4⟩ := M.opt_ok e2
  clear ha
  subst e4
  obtain ⟨e6, e7⟩ := M.pure_ok h
  subst e6 e7
  exact ⟨fr, F, ρ, n, .ok x, _, R, e1, fun F1 H1 v R1 s1 d1 => ⟨b, tru_of R1.core.sub d1 e3, k F1 H1 _ R1 s1 (.bl _)⟩⟩
def eIf (t : TX) (f g : EX) : EX := fun ρ => M.bind (t ρ) fun b => match b with | true => f ρ | false => g ρ
theorem d_if {c a b : Expr} {t : TX} {f g : EX} {pos : Pos} (hc : PDT X W c t) (ha : PD X W a f) (hb : PD X W b g) : PD X W (.IfExp c a b pos) (eIf t f g) := imp_E (pe_ifExp hc ha hb) fun σ H Q ⟨fr, F, ρ, n, r, n', R, e, k⟩ => by
  rcases r with z | d
  · refine R.tE e k fun b n1 F1 H1 e1 h R1 s1 => ?_
    cases b with
    | true =>
      rw [if_pos rfl]
      exact ⟨fr, F1, ρ, n1, .error z, n', R1, h, k.mono s1⟩
    | false =>
      rw [if_neg Bool.false_ne_true]
      exact ⟨fr, F1, ρ, n1, .error z, n', R1, h, k.mono s1⟩
  obtain ⟨b, n1, e1, h⟩ := M.bind_ok e
  refine ⟨fr, F, ρ, n, .ok b, n1, R, e1, fun F1 H1 R1 s1 => ?_⟩
  cases b with
  | true =>
    rw [if_pos rfl]
    exact ⟨fr, F1, ρ, n1, .ok d, n', R1, h, fun F2 H2 v R2 s2 d2 => k F2 H2 v R2 (s1.trans s2) d2⟩
  | false =>
    rw [if_neg Bool.false_ne_true]
    exact ⟨fr, F1, ρ, n1, .ok d, n', R1, h, fun F2 H2 v R2 s2 d2 => k F2 H2 v R2 (s1.trans s2) d2⟩

/-! ### subscripts -/
def dIx : D → D → Option D
  | .tup xs, .int i => atI xs i
  | .lst xs, .int i => atI xs i
  | .str z, .int i => if z.length ≤ sizeLine then (match atI z.cps.toList i with | some c => some (.str ⟨#[c]⟩) | none => none) else none
  | .scr, .int i => none
  | _, _ => none
theorem Dens.at {K : PySem.W.Frag} {dr : Option Addr} {F : Hp} {vs : List V} {ds : List D} {i : Int} {d : D} (h : Dens K W dr F vs ds) (e : atI ds i = some d) : ∃ v, atI vs i = some v ∧ Den K W dr F v d := by
  unfold atI at e ⊢
  rw [h.length]
  cases q : ixN ds.length i with
  | none => rw [q] at e; cases e
  | some j =>
    rw [q] at e
    exact h.get e
theorem q_ix {K : PySem.W.Frag} : Op2 K W (rIx K) dIx := by
  intro fr F H σ ρ n x y d v u Q R dx dy h k
  unfold dIx at h
  split at h
  · cases dx with
    | tup h1 h2 =>
      cases dy
      obtain ⟨w, e1, e2⟩ := h2.at h
      exact .inr (.inl ⟨_, _, _, w, rfl, rfl, R.core.sub.sqT h1, e1, k F H w R (Sub.refl _) e2⟩)
  · cases dx with
    | lst h1 h2 =>
      cases dy
      obtain ⟨w, e1, e2⟩ := h2.at h
      exact .inl ⟨_, _, _, w, rfl, rfl, SqL.of (R.core.sub _ _ h1), e1, k F H w R (Sub.refl _) e2⟩
  · cases dx; cases dy
    split at h
    · split at h
      · cases h
        exact .inr (.inr ⟨_, _, _, rfl, rfl, ‹_›, ‹_›, k F H _ R (Sub.refl _) (.str _)⟩)
      · cases h
    · cases h
  · cases h
  · cases h
theorem d_ix {a b : Expr} {fa fb : EX} {pos : Pos} (ha : PD X W a fa) (hb : PD X W b fb) (hs : PlainIx b := by exact fun _ _ => rfl) : PD X W (.Subscript a b pos) (e2 dIx fa fb) := imp_E (pe_ix ix_seq ha hb hs) fun _ _ _ h => d_tOp q_ix h

/-! ### slices a[lo:hi] -/
abbrev EO := Env → M (Option Int)
def oNone : EO := fun _ => M.pure none
def oSome (f : EX) : EO := fun ρ => M.bind (f ρ) fun d => M.opt (match d with | .int i => some (some i) | _ => none)
def tOD (X : Cx) (W : Wd) (f : EO) : TO := fun σ H Q => ∃ fr F ρ n r n', Rel X.K W fr F H σ ρ n ∧ f ρ n = some (r, n') ∧ Res (fun o => ∀ F' H', Rel X.K W fr F' H' σ ρ n' → Sub F F' → Q o H') (KX X W fr F σ ρ n') r
theorem imp_O {e : Option Expr} {t t' : TO} (h : PO X e t) (k : ∀ σ H Q, t' σ H Q → t σ H Q) : PO X e t' := ⟨fun pins s σ H Q I q => h.run pins s σ H Q I (k σ H Q q)⟩
theorem o_none : PO X none (tOD X W oNone) := imp_O po_none fun σ H Q ⟨fr, F, ρ, n, r, n', R, e, k⟩ => by
  rcases r with z | o
  · exact (M.pure_err e).elim
  obtain ⟨e6, e7⟩ := M.pure_ok e
  subst e6 e7
  exact k F H R (Sub.refl _)
theorem o_some {e : Expr} {f : EX} (h : PD X W e f) : PO X (some e) (tOD X W (oSome f)) := imp_O (po_some h) fun σ H Q ⟨fr, F, ρ, n, r, n', R, e, k⟩ => by
  rcases r with z | o
  · exact R.dE1 e k
  obtain ⟨x, n1, e1, h⟩ := M.bind_ok e
  obtain ⟨e3, e4⟩ := M.opt_ok h
  subst e4
  refine ⟨fr, F, ρ, n, .ok x, _, R, e1, fun F1 H1 v R1 s1 d1 => ?_⟩
  split at e3
  · cases e3; cases d1; exact ⟨_, rfl, k F1 H1 R1 s1⟩
  · cases e3
def cutD (xs : List D) (lo hi : Option Int) : List D := (xs.drop (HT.sIx xs.length 0 lo)).take (HT.sIx xs.length xs.length hi - HT.sIx xs.length 0 lo)
theorem Dens.cut {K : PySem.W.Frag} {dr : Option Addr} {F : Hp} {vs : List V} {ds : List D} (h : Dens K W dr F vs ds) (lo hi : Option Int) : Dens K W dr F (cutV vs lo hi) (cutD ds lo hi) := by
  unfold cutV cutD
  rw [h.length]
  exact (h.drop _).take _
def dCut (x : D) (lo hi : Option Int) : Option D := match x with
  | .tup xs => some (.tup (cutD xs lo hi))
  | .lst xs => some (.lst (cutD xs lo hi))
  | _ => none
theorem cut_whole {xs : List D} {lo hi : Option Int} (h : HT.sIx xs.length 0 lo = 0 ∧ HT.sIx xs.length xs.length hi = xs.length) : cutD xs lo hi = xs := by
  unfold cutD
  rw [h.1, h.2]
  simp
def eCut (f : EX) (lo hi : EO) : EX := fun ρ => M.bind (f ρ) fun x => M.bind (lo ρ) fun l => M.bind (hi ρ) fun h => M.opt (dCut x l h)
theorem d_cut {a : Expr} {lo hi : Option Expr} {f : EX} {l h : EO} {p2 pos : Pos} (ha : PD X W a f) (hl : PO X lo (tOD X W l)) (hh : PO X hi (tOD X W h)) : PD X W (.Subscript a (.Slice lo hi none p2) pos) (eCut f l h) := imp_E (pe_slice (sl_tupA.or sl_list) ha hl hh) fun σ H Q ⟨fr, F, ρ, n, r, n', R, e, k⟩ => by
  rcases r with z | d
  · refine R.dE e k fun x n1 F1 H1 v e1 h R1 s1 d1 => ?_
    rcases M.bind_err h with e2 | ⟨l', n2, e2, h⟩
    · exact ⟨fr, F1, ρ, n1, .error z, n', R1, e2, k.mono s1⟩
    refine ⟨fr, F1, ρ, n1, .ok l', n2, R1, e2, fun F2 H2 R2 s2 => ?_⟩
    rcases M.bind_err h with e3 | ⟨u', n3, e3, h⟩
    · exact ⟨fr, F2, ρ, n2, .error z, n', R2, e3, (k.mono s1).mono s2⟩
    · exact (M.opt_err h).elim
  obtain ⟨x, n1, e1, h⟩ := M.bind_ok e
  obtain ⟨l', n2, e2, h⟩ := M.bind_ok h
  obtain ⟨u', n3, e3, h⟩ := M.bind_ok h
  obtain ⟨e4, e5⟩ := M.opt_ok h
  subst e5
  refine ⟨fr, F, ρ, n, .ok x, _, R, e1, fun F1 H1 v R1 s1 d1 => ⟨fr, F1, ρ, _, .ok l', _, R1, e2, fun F2 H2 R2 s2 => ⟨fr, F2, ρ, _, .ok u', _, R2, e3, fun F3 H3 R3 s3 => ?_⟩⟩⟩
  have k' : ∀ F' H' w, Rel X.K W fr F' H' σ ρ _ → Sub F3 F' → Den X.K W fr.dr F' w d → Q w H' := fun F' H' w r s dd => k F' H' w r (((s1.trans s2).trans s3).trans s) dd
  have d3 := d1.mono (dr' := fr.dr) (s2.trans s3) fun _ z => z
  unfold dCut at e4
  split at e4
  · cases e4
    cases d3 with
    | tup h1 h2 =>
      refine .inl ⟨_, _, rfl, R3.core.sub.sqT h1, fun q => ?_, fun _ => put_tup R3 (h2.cut _ _) k'⟩
      have q' := q
      rw [h2.length] at q'
      exact k' F3 H3 _ R3 (Sub.refl _) (by rw [cut_whole q']; exact .tup h1 h2)
  · cases e4
    cases d3 with
    | lst h1 h2 => exact .inr ⟨_, _, rfl, SqL.of (R3.core.sub _ _ h1), put_lst R3 (h2.cut _ _) k'⟩
  · cases e4

/-! ### built-ins by values -/
/-- a built-in called -/
def CallD (K : PySem.W.Frag) (W : Wd) (r : List V → Hp → VK → Prop) (op : List D → Option D) : Prop := ∀ (fr : Fr) (F H : Hp) (σ : St) (ρ : Env) (n : Int) (xs : List D) (d : D) (vs : List V) (Q : VK), Rel K W fr F H σ ρ n → Dens K W fr.dr F vs xs → op xs = some d →
  (∀ F' H' w, Rel K W fr F' H' σ ρ n → Sub F F' → Den K W fr.dr F' w d → Q w H') → r vs H Q
def eB (op : List D → Option D) (f : EXs) : EX := fun ρ => M.bind (f ρ) fun xs => M.opt (op xs)
theorem tCB_of {r : List V → Hp → VK → Prop} {op : List D → Option D} {f : EXs} (hd : CallD X.K W r op) {σ : St} {H : Hp} {Q : VK} (h : tD X W (eB op f) σ H Q) : tCB r (tDs X W f) σ H Q := by
  obtain ⟨fr, F, ρ, n, r, n', R, e, k⟩ := h
  rcases r with z | d
  · exact R.dsE1 e k
  obtain ⟨x, n1, e1, h⟩ := M.bind_ok e
  obtain ⟨e4, e5⟩ := M.opt_ok h
  subst e5
  exact ⟨fr, F, ρ, n, .ok x, _, R, e1, fun F1 H1 vs R1 s1 d1 => hd fr F1 H1 σ ρ _ x d vs Q R1 d1 e4 fun F2 H2 w R2 s2 d2 => k F2 H2 w R2 (s1.trans s2) d2⟩
def dLen : List D → Option D
  | [.tup xs] => some (.int xs.length)
  | [.lst xs] => some (.int xs.length)
  | [.str x] => if x.length ≤ sizeLine then some (.int x.length) else none
  | _ => none
theorem q_len {K : PySem.W.Frag} : CallD K W (fun xs H Q => ∃ x n, xs = [x] ∧ LenV K x H n ∧ Q (.int n) H) dLen := by
  intro fr F H σ ρ n xs d vs Q R dx h k
  unfold dLen at h
  split at h
  · cases h
    cases dx with
    | cons h1 h2 =>
      cases h2
      cases h1 with
      | tup h3 h4 => exact ⟨_, _, rfl, .inr ⟨_, R.core.sub.sqT h3, rfl⟩, by rw [h4.length]; exact k F H _ R (Sub.refl _) (.int _)⟩
  · cases h
    cases dx with
    | cons h1 h2 =>
      cases h2
      cases h1 with
      | lst h3 h4 => exact ⟨_, _, rfl, .inl ⟨_, SqL.of (R.core.sub _ _ h3), rfl⟩, by rw [h4.length]; exact k F H _ R (Sub.refl _) (.int _)⟩
  · split at h
    · cases h
      cases dx with
      | cons h1 h2 =>
        cases h2
        cases h1
        exact ⟨_, _, rfl, ⟨‹_›, rfl⟩, k F H _ R (Sub.refl _) (.int _)⟩
    · cases h
  · cases h
end
end DL
end

section
set_option Elab.async false
set_option linter.all false
set_option autoImplicit false
set_option maxRecDepth 100000
namespace DL
open PySem PySem.Spec L2
section
variable {K : PySem.W.Frag} {W : Wd} {fr : Fr} {F F' H H' : Hp} {σ σ' : St} {ρ ρ' : Env} {n n' : Int}
/-! ### slots stored -/
theorem get_set_self {α : Type} {l : List α} {i : Nat} {a : α} (h : i < l.length) : (l.set i a)[i]? = some a := by simp [h]
theorem Rel.set (r : Rel K W fr F H σ ρ n) {i : Nat} {v : V} {d : D} (h : Den K W fr.dr F v d) : Rel K W fr F H (σ.set i (some v)) (ρ.set i (.val d)) n := by
  obtain ⟨ad, s⟩ := r.slots
  refine ⟨r.core, ad, by simp [s.len], fun j e q => ?_, fun j e q => ?_, fun j k e e' q q' => ?_⟩
  · by_cases hj : i = j
    · subst hj
      by_cases hi : i < ρ.length
      · rw [get_set_self hi] at q
        cases q
        exact ⟨v, get_set_self (by rw [s.len]; exact hi), h⟩
      · rw [List.getElem?_eq_none (by simpa using hi)] at q; cases q
    · rw [List.getElem?_set_ne hj] at q
      obtain ⟨u, h1, h2⟩ := s.val j e q
      exact ⟨u, by rw [List.getElem?_set_ne hj]; exact h1, h2⟩
  · by_cases hj : i = j
    · subst hj
      by_cases hi : i < ρ.length
      · rw [get_set_self hi] at q; cases q
      · rw [List.getElem?_eq_none (by simpa using hi)] at q; cases q
    · rw [List.getElem?_set_ne hj] at q
      obtain ⟨h1, h2⟩ := s.own j e q
      exact ⟨by rw [List.getElem?_set_ne hj]; exact h1, h2⟩
  · by_cases hj : i = j
    · subst hj
      by_cases hi : i < ρ.length
      · rw [get_set_self hi] at q; cases q
      · rw [List.getElem?_eq_none (by simpa using hi)] at q; cases q
    · by_cases hk : i = k
      · subst hk
        by_cases hi : i < ρ.length
        · rw [get_set_self hi] at q'; cases q'
        · rw [List.getElem?_eq_none (by simpa using hi)] at q'; cases q'
      · rw [List.getElem?_set_ne hj] at q
        rw [List.getElem?_set_ne hk] at q'
        exact s.inj j k e e' q q'
/-- a new object of one's own in a slot -/
theorem Rel.setOwn (r : Rel K W fr F H σ ρ n) {i : Nat} {p : Addr} {o : HO} {d : D} (hp : H p = none) (hd : isO d = false) (h : MDen K W fr.dr F (upd H p o) p d) : Rel K W fr F (upd H p o) (σ.set i (some (.ref p))) (ρ.set i (.own d)) n := by
  obtain ⟨ad, s⟩ := r.slots
  have hF := r.core.noF hp
  have kp : ∀ a u, H a = some u → upd H p o a = some u := fun a u q => by rw [upd_ne (ne_of_none q hp)]; exact q
  have old : ∀ (j : Nat) (e : D), ρ[j]? = some (.own e) → ad j ≠ p := fun j e q z => by
    obtain ⟨u, hu⟩ := (s.own j e q).2.2.2.2.1.there
    rw [z, hp] at hu; cases hu
  refine ⟨r.core.fresh' hp, fun j => if j = i then p else ad j, by simp [s.len], fun j e q => ?_, fun j e q => ?_, fun j k e e' q q' z => ?_⟩
  · by_cases hj : i = j
    · subst hj
      by_cases hi : i < ρ.length
      · rw [get_set_self hi] at q; cases q
      · rw [List.getElem?_eq_none (by simpa using hi)] at q; cases q
    · rw [List.getElem?_set_ne hj] at q
      obtain ⟨u, h1, h2⟩ := s.val j e q
      exact ⟨u, by rw [List.getElem?_set_ne hj]; exact h1, h2⟩
  · by_cases hj : i = j
    · subst hj
      by_cases hi : i < ρ.length
      · rw [get_set_self hi] at q
        cases q
        simp only [if_true]
        exact ⟨get_set_self (by rw [s.len]; exact hi), hF, r.core.ndr hp, .inl (r.core.noH0 hp), h, .inr ⟨hd, r.core.noH0 hp⟩⟩
      · rw [List.getElem?_eq_none (by simpa using hi)] at q; cases q
    · rw [List.getElem?_set_ne hj] at q
      obtain ⟨h1, h2, h3, h4, h5, h6⟩ := s.own j e q
      simp only [if_neg (Ne.symm hj)]
      exact ⟨by rw [List.getElem?_set_ne hj]; exact h1, h2, h3, h4, h5.mono (Sub.refl _) (fun u z => kp _ _ z), h6⟩
  · have len : ∀ {j : Nat} {e : D}, (ρ.set i (Sl.own d))[j]? = some (Sl.own e) → j ≠ i → ρ[j]? = some (Sl.own e) := fun {j e} q hj => by
      rw [List.getElem?_set_ne (Ne.symm hj)] at q; exact q
    by_cases hj : j = i
    · by_cases hk : k = i
      · rw [hj, hk]
      · simp only [if_pos hj, if_neg hk] at z
        exact absurd z.symm (old k e' (len q' hk))
    · by_cases hk : k = i
      · simp only [if_neg hj, if_pos hk] at z
        exact absurd z (old j e (len q hj))
      · simp only [if_neg hj, if_neg hk] at z
        exact s.inj j k e e' (len q hj) (len q' hk) z
/-- what is one's own, changed -/
theorem Rel.change (r : Rel K W fr F H σ ρ n) {i : Nat} {d d' : D} {o : HO} {ad : Nat → Addr} (s : Slots K W fr F H σ ρ ad) (hi : ρ[i]? = some (.own d)) (h : MDen K W fr.dr F (upd H (ad i) o) (ad i) d') (hd : isO d' = isO d) : Rel K W fr F (upd H (ad i) o) σ (ρ.set i (.own d')) n := by
  obtain ⟨h1, h2, h3, h4, h5, h6⟩ := s.own i d hi
  have hlt : i < ρ.length := (List.getElem?_eq_some_iff.mp hi).1
  have c := r.core
  have core : Core K W fr F (upd H (ad i) o) n := {
    sub := fun a u q => by rw [upd_ne (ne_of_none q h2)]; exact c.sub _ _ q
    base := fun a u q q2 q3 => by
      have ne : a ≠ ad i := fun z => by
        subst z
        rcases h4 with h4 | h4
        · rw [h4] at q; cases q
        · exact q3 h4
      rw [upd_ne ne]; exact c.base a u q q2 q3
    f0 := c.f0
    new := c.new
    there := fun a u q => by
      by_cases e : a = ad i
      · rw [e]; exact ⟨_, upd_same, (h.pl upd_same).1⟩
      · obtain ⟨o', z, nt⟩ := c.there a u q
        exact ⟨o', by rw [upd_ne e]; exact z, nt⟩
    draw := fun a e => by
      obtain ⟨q1, q2, q3⟩ := c.draw a e
      have ne : a ≠ ad i := fun z => h3 (by rw [← z]; exact e)
      exact ⟨q1, by rw [upd_ne ne]; exact q2, q3⟩
    ntF := c.ntF
    tabs := tabs_keep c.tabs fun a u q sd => by
      have ne : a ≠ ad i := fun z => by subst z; exact (h5.pl q).2 sd
      rw [upd_ne ne]; exact q }
  refine ⟨core, ad, by simp [s.len], fun j e q => ?_, fun j e q => ?_, fun j k e e' q q' z => ?_⟩
  · by_cases hj : i = j
    · subst hj; rw [get_set_self hlt] at q; cases q
    · rw [List.getElem?_set_ne hj] at q
      exact s.val j e q
  · by_cases hj : i = j
    · subst hj
      rw [get_set_self hlt] at q
      cases q
      exact ⟨h1, h2, h3, h4, h, by rw [hd]; exact h6⟩
    · rw [List.getElem?_set_ne hj] at q
      obtain ⟨q1, q2, q3, q4, q5, q6⟩ := s.own j e q
      refine ⟨q1, q2, q3, q4, q5.mono (Sub.refl _) fun u z => ?_, q6⟩
      have ne : ad j ≠ ad i := fun w => hj (s.inj i j d e hi q w.symm)
      rw [upd_ne ne]; exact z
  · have key : ∀ {j : Nat} {e : D}, (ρ.set i (Sl.own d'))[j]? = some (Sl.own e) → ∃ e', ρ[j]? = some (Sl.own e') := fun {j e} q => by
      by_cases hj : i = j
      · subst hj; exact ⟨_, hi⟩
      · rw [List.getElem?_set_ne hj] at q; exact ⟨_, q⟩
    obtain ⟨a, qa⟩ := key q
    obtain ⟨b, qb⟩ := key q'
    exact s.inj j k a b qa qb z
/-- one's own, given out -/
def frz (i : Nat) (ρ : Env) : Env := match ρ[i]? with
  | some (.own d) => ρ.set i (.val d)
  | _ => ρ
def HO' (K : PySem.W.Frag) (W : Wd) (H : Hp) (a : Addr) : Option HO := H a
theorem Rel.freeze (r : Rel K W fr F H σ ρ n) {i : Nat} {d : D} {ad : Nat → Addr} (s : Slots K W fr F H σ ρ ad) (hi : ρ[i]? = some (.own d)) (hx : fr.H0 (ad i) = none) : ∃ F', Sub F F' ∧ Rel K W fr F' H σ (ρ.set i (.val d)) n := by
  obtain ⟨h1, h2, h3, h4, h5, h6⟩ := s.own i d hi
  obtain ⟨o, ho⟩ := h5.there
  have hlt : i < ρ.length := (List.getElem?_eq_some_iff.mp hi).1
  have c := r.core
  have up : Sub F (upd F (ad i) o) := fun a u q => by rw [upd_ne (ne_of_none q h2)]; exact q
  have core : Core K W fr (upd F (ad i) o) H n := {
    sub := fun a u q => by
      by_cases e : a = ad i
      · rw [e, upd_same] at q; rw [e, ho]; exact q
      · rw [upd_ne e] at q; exact c.sub _ _ q
    base := c.base
    f0 := c.f0.trans up
    new := fun a u q q2 => by
      have e : a ≠ ad i := ne_of_none q hx
      rw [upd_ne e]; exact c.new a u q q2
    there := c.there
    draw := fun a e => by
      obtain ⟨q1, q2, q3⟩ := c.draw a e
      have ne : a ≠ ad i := fun z => h3 (by rw [← z]; exact e)
      exact ⟨by rw [upd_ne ne]; exact q1, q2, up.sqL q3⟩
    ntF := fun a u q => by
      by_cases e : a = ad i
      · rw [e, upd_same] at q; cases q; exact (h5.pl ho).1
      · rw [upd_ne e] at q; exact c.ntF a u q
    tabs := c.tabs }
  have den : Den K W fr.dr (upd F (ad i) o) (.ref (ad i)) d := by
    cases d with
    | lst ds => obtain ⟨vs, e, q⟩ := h5; rw [ho] at e; cases e; exact .lst upd_same (q.mono up fun _ z => z)
    | dic ks ds => obtain ⟨vs, l, e, q⟩ := h5; rw [ho] at e; cases e; exact .dic l (.inl upd_same) (q.mono up fun _ z => z)
    | dit ks ds => obtain ⟨vs, l, e, q⟩ := h5; rw [ho] at e; cases e; exact .dit l (.inl upd_same) (q.mono up fun _ z => z)
    | obj c ks ds => obtain ⟨dx, vs, l, e, q⟩ := h5; rw [ho] at e; cases e; exact .obj l upd_same (q.mono up fun _ z => z)
    | non => exact h5.elim
    | bl _ => exact h5.elim
    | int _ => exact h5.elim
    | str _ => exact h5.elim
    | tup _ => exact h5.elim
    | drw => exact h5.elim
    | scr => exact h5.elim
  refine ⟨_, up, core, ad, by simp [s.len], fun j e q => ?_, fun j e q => ?_, fun j k e e' q q' z => ?_⟩
  · by_cases hj : i = j
    · subst hj; rw [get_set_self hlt] at q; cases q
      exact ⟨_, h1, den⟩
    · rw [List.getElem?_set_ne hj] at q
      obtain ⟨v, q1, q2⟩ := s.val j e q
      exact ⟨v, q1, q2.mono up fun _ z => z⟩
  · by_cases hj : i = j
    · subst hj; rw [get_set_self hlt] at q; cases q
    · rw [List.getElem?_set_ne hj] at q
      obtain ⟨q1, q2, q3, q4, q5, q6⟩ := s.own j e q
      have ne : ad j ≠ ad i := fun w => hj (s.inj i j d e hi q w.symm)
      exact ⟨q1, by rw [upd_ne ne]; exact q2, q3, q4, q5.mono up fun _ z => z, q6⟩
  · by_cases hj : i = j
    · subst hj; rw [get_set_self hlt] at q; cases q
    · by_cases hk : i = k
      · subst hk; rw [get_set_self hlt] at q'; cases q'
      · rw [List.getElem?_set_ne hj] at q
        rw [List.getElem?_set_ne hk] at q'
        exact s.inj j k e e' q q' z
end

/-! ### targets -/
abbrev GX := D → Env → Option Env
abbrev GXs := List D → Env → Option Env
def gV (i : Nat) : GX := fun d ρ => some (ρ.set i (.val d))
def gsN : GXs := fun ds ρ => match ds with | [] => some ρ | _ => none
def gsC (g : GX) (gs : GXs) : GXs := fun ds ρ => match ds with
  | [] => none
  | d :: r => (g d ρ).bind fun ρ1 => gs r ρ1
def gT (gs : GXs) : GX := fun d ρ => match d with | .tup ds => gs ds ρ | _ => none
theorem wipe_get (σ : St) (j : Nat) : ∀ vs : List Nat, (wipe σ vs)[j]? = if j ∈ vs then (if j < σ.length then some none else none) else σ[j]?
  | [] => by simp [wipe]
  | v :: vs => by
    unfold wipe
    by_cases hj : v = j
    · subst hj
      rw [if_pos List.mem_cons_self]
      by_cases hl : v < σ.length
      · rw [if_pos hl, get_set_self (by rw [wipe_length]; exact hl)]
      · rw [if_neg hl, List.getElem?_eq_none (by rw [List.length_set, wipe_length]; omega)]
    · rw [List.getElem?_set_ne hj, wipe_get σ j vs]
      have : (j ∈ v :: vs) = (j ∈ vs) := by simp [Ne.symm hj]
      simp only [this]
/-- the slots is alone have changed -/
def Wip (is : List Nat) (σ σ' : St) : Prop := ∀ vs : List Nat, (∀ i ∈ is, i ∈ vs) → wipe σ' vs = wipe σ vs
theorem Wip.refl (is : List Nat) (σ : St) : Wip is σ σ := fun _ _ => rfl
theorem Wip.trans {is : List Nat} {σ σ1 σ2 : St} (a : Wip is σ σ1) (b : Wip is σ1 σ2) : Wip is σ σ2 := fun vs h => (b vs h).trans (a vs h)
theorem Wip.mono {is js : List Nat} {σ σ1 : St} (a : Wip is σ σ1) (h : ∀ i ∈ is, i ∈ js) : Wip js σ σ1 := fun vs k => a vs fun i hi => k i (h i hi)
theorem Wip.set (σ : St) (i : Nat) (x : Option V) : Wip [i] σ (σ.set i x) := fun vs h => by
  have hi : i ∈ vs := h i (by simp)
  apply List.ext_getElem?
  intro j
  rw [wipe_get, wipe_get, List.length_set]
  by_cases hj : j ∈ vs
  · rw [if_pos hj, if_pos hj]
  · rw [if_neg hj, if_neg hj, List.getElem?_set_ne (fun e => hj (by rw [← e]; exact hi))]
theorem wipe_wipe (σ : St) (vs : List Nat) : wipe (wipe σ vs) vs = wipe σ vs := by
  apply List.ext_getElem?
  intro j
  rw [wipe_get, wipe_get, wipe_length]
  by_cases hj : j ∈ vs
  · rw [if_pos hj, if_pos hj]
  · rw [if_neg hj, if_neg hj]
/-- a target over data -/
def GOk (K : PySem.W.Frag) (W : Wd) (t : TG) (g : GX) (is : List Nat) : Prop := ∀ (fr : Fr) (F H : Hp) (σ : St) (ρ ρ' : Env) (n : Int) (v : V) (d : D) (Q : St → Hp → Prop), Rel K W fr F H σ ρ n → Den K W fr.dr F v d → g d ρ = some ρ' →
  (∀ σ', Rel K W fr F H σ' ρ' n → Wip is σ σ' → Q σ' H) → t v σ H Q
def GsOk (K : PySem.W.Frag) (W : Wd) (t : TGs) (g : GXs) (is : List Nat) : Prop := ∀ (fr : Fr) (F H : Hp) (σ : St) (ρ ρ' : Env) (n : Int) (vs : List V) (ds : List D) (Q : St → Hp → Prop), Rel K W fr F H σ ρ n → Dens K W fr.dr F vs ds → g ds ρ = some ρ' →
  (∀ σ', Rel K W fr F H σ' ρ' n → Wip is σ σ' → Q σ' H) → t vs σ H Q
section
variable {K : PySem.W.Frag} {W : Wd}
theorem q_gV (i : Nat) : GOk K W (gName i) (gV i) [i] := fun fr F H σ ρ ρ' n v d Q R hd e k => by
  cases e
  exact k _ (R.set hd) (Wip.set _ _ _)
theorem q_gsN : GsOk K W gNil gsN [] := fun fr F H σ ρ ρ' n vs ds Q R hd e k => by
  unfold gsN at e
  split at e
  · cases e; cases hd; exact ⟨rfl, k _ R (Wip.refl _ _)⟩
  · cases e
theorem q_gsC {t : TG} {u : TGs} {g : GX} {gs : GXs} {is js : List Nat} (h : GOk K W t g is) (h' : GsOk K W u gs js) : GsOk K W (gCons t u) (gsC g gs) (is ++ js) := fun fr F H σ ρ ρ' n vs ds Q R hd e k => by
  unfold gsC at e
  split at e
  · cases e
  · cases hd with
    | cons h1 h2 =>
      cases q : g _ ρ with
      | none => rw [q] at e; cases e
      | some ρ1 =>
        rw [q] at e
        exact ⟨_, _, rfl, h fr F H σ ρ ρ1 n _ _ _ R h1 q fun σ' R' w1 => h' fr F H σ' ρ1 ρ' n _ _ Q R' h2 e fun σ2 R2 w2 => k σ2 R2 ((w1.mono fun i hi => List.mem_append_left _ hi).trans (w2.mono fun i hi => List.mem_append_right _ hi))⟩
theorem gs_len {g : GXs} : True := trivial
/-- how many targets -/
def GLen (g : GXs) (m : Nat) : Prop := ∀ ds ρ ρ', g ds ρ = some ρ' → ds.length = m
theorem gl_N : GLen gsN 0 := fun ds ρ ρ' e => by
  unfold gsN at e
  split at e
  · rfl
  · cases e
theorem gl_C {g : GX} {gs : GXs} {m : Nat} (h : GLen gs m) : GLen (gsC g gs) (m + 1) := fun ds ρ ρ' e => by
  unfold gsC at e
  split at e
  · cases e
  · cases q : g _ ρ with
    | none => rw [q] at e; cases e
    | some ρ1 =>
      rw [q] at e
      simp [h _ _ _ e]
theorem q_gT {u : TGs} {gs : GXs} {m : Nat} {is : List Nat} (h : GsOk K W u gs is) (l : GLen gs m) : GOk K W (gTup K m u) (gT gs) is := fun fr F H σ ρ ρ' n v d Q R hd e k => by
  unfold gT at e
  split at e
  · cases hd with
    | tup h1 h2 => exact ⟨_, _, rfl, R.core.sub.sqT h1, by rw [h2.length]; exact l _ _ _ e, h fr F H σ ρ ρ' n _ _ Q R h2 e k⟩
  · cases e
end

/-! ### statements -/
section
variable {X : Cx} {W : Wd}
def sNx : SX := fun ρ => M.pure (.nx ρ)
def sBk : SX := fun ρ => M.pure (.bk ρ)
def sCt : SX := fun ρ => M.pure (.ct ρ)
def sSeq (g h : SX) : SX := fun ρ => M.bind (g ρ) fun o => match o with
  | .nx ρ' => h ρ'
  | .bk ρ' => M.pure (.bk ρ')
  | .ct ρ' => M.pure (.ct ρ')
  | .ret d => M.pure (.ret d)
def sRet (f : EX) : SX := fun ρ => M.bind (f ρ) fun d => M.pure (.ret d)
def sRetN : SX := fun ρ => M.pure (.ret .non)
def sExp (f : EX) : SX := fun ρ => M.bind (f ρ) fun _ => M.pure (.nx ρ)
def sAsg (g : GX) (f : EX) : SX := fun ρ => M.bind (f ρ) fun d => M.bind (M.opt (g d ρ)) fun ρ' => M.pure (.nx ρ')
def sIf (t : TX) (g h : SX) : SX := fun ρ => M.bind (t ρ) fun b => match b with | true => g ρ | false => h ρ
def sNo : SX := fun _ => M.opt none
theorem S_nil : PDSs X W [] sNx := imp_Ss pss_nil fun E σ H ⟨fr, F, ρ, n, r, n', R, e, k⟩ => by
  rcases r with z | o
  · exact (M.pure_err e).elim
  obtain ⟨h1, h2⟩ := M.pure_ok e
  subst h1 h2
  exact k F H σ R (Sub.refl _)
theorem S_pass {pos : Pos} : PDS X W (.Pass pos) sNx := imp_S ps_pass fun E σ H ⟨fr, F, ρ, n, r, n', R, e, k⟩ => by
  rcases r with z | o
  · exact (M.pure_err e).elim
  obtain ⟨h1, h2⟩ := M.pure_ok e
  subst h1 h2
  exact k F H σ R (Sub.refl _)
theorem S_break {pos : Pos} : PDS X W (.Break pos) sBk := imp_S ps_break fun E σ H ⟨fr, F, ρ, n, r, n', R, e, k⟩ => by
  rcases r with z | o
  · exact (M.pure_err e).elim
  obtain ⟨h1, h2⟩ := M.pure_ok e
  subst h1 h2
  exact k F H σ R (Sub.refl _)
theorem S_cont {pos : Pos} : PDS X W (.Continue pos) sCt := imp_S ps_continue fun E σ H ⟨fr, F, ρ, n, r, n', R, e, k⟩ => by
  rcases r with z | o
  · exact (M.pure_err e).elim
  obtain ⟨h1, h2⟩ := M.pure_ok e
  subst h1 h2
  exact k F H σ R (Sub.refl _)
/-- a statement that is not reached -/
theorem S_no {st : Stmt} : PDS X W st sNo := imp_S ps_never fun E σ H ⟨fr, F, ρ, n, r, n', R, e, k⟩ => by
  rcases r with z | o
  · exact (M.opt_err e).elim
  obtain ⟨h1, h2⟩ := M.opt_ok e
  cases h1
theorem S_one {st : Stmt} {g : SX} (h : PDS X W st g) : PDSs X W [st] g := pss_one h
theorem S_cons {st : Stmt} {r : List Stmt} {g h : SX} (hg : PDS X W st g) (hh : PDSs X W r h) : PDSs X W (st :: r) (sSeq g h) := imp_Ss (pss_cons hg hh) fun E σ H ⟨fr, F, ρ, n, r, n', R, e, k⟩ => by
  rcases r with z | o
  · refine R.sE e k fun o1 n1 e1 h => ?_
    cases o1 with
    | nx ρ1 => exact fun F1 H1 σ1 R1 s1 => ⟨fr, F1, ρ1, n1, .error z, n', R1, h, KS.mono k s1⟩
    | bk ρ1 => exact (M.pure_err h).elim
    | ct ρ1 => exact (M.pure_err h).elim
    | ret d => exact (M.pure_err h).elim
  obtain ⟨o1, n1, e1, h⟩ := M.bind_ok e
  refine ⟨fr, F, ρ, n, .ok o1, n1, R, e1, ?_⟩
  cases o1 with
  | nx ρ1 => exact fun F1 H1 σ1 R1 s1 => ⟨fr, F1, ρ1, n1, .ok o, n', R1, h, k.mono s1⟩
  | bk ρ1 =>
    obtain ⟨h1, h2⟩ := M.pure_ok h
    subst h1 h2
    exact k
  | ct ρ1 =>
    obtain ⟨h1, h2⟩ := M.pure_ok h
    subst h1 h2
    exact k
  | ret d =>
    obtain ⟨h1, h2⟩ := M.pure_ok h
    subst h1 h2
    exact k
theorem S_ret {e : Expr} {f : EX} {pos : Pos} (he : PD X W e f) : PDS X W (.Return (some e) pos) (sRet f) := imp_S (ps_ret he) fun E σ H ⟨fr, F, ρ, n, r, n', R, e, k⟩ => by
  rcases r with z | o
  · exact R.dE e (KS.x k) fun _ _ _ _ _ _ h _ _ _ => (M.pure_err h).elim
  obtain ⟨x, n1, e1, h⟩ := M.bind_ok e
  obtain ⟨h1, h2⟩ := M.pure_ok h
  subst h1 h2
  exact ⟨fr, F, ρ, n, .ok x, _, R, e1, fun F1 H1 v R1 s1 d1 => k F1 H1 v R1.core s1 d1⟩
theorem S_retN {pos : Pos} : PDS X W (.Return none pos) sRetN := imp_S ps_retN fun E σ H ⟨fr, F, ρ, n, r, n', R, e, k⟩ => by
  rcases r with z | o
  · exact (M.pure_err e).elim
  obtain ⟨h1, h2⟩ := M.pure_ok e
  subst h1 h2
  exact k F H _ R.core (Sub.refl _) .non
theorem S_exp {e : Expr} {f : EX} {pos : Pos} (he : PD X W e f) (hs : swapsWith e none pos.line X.env = pure false := by rfl) : PDS X W (.Expr e pos) (sExp f) := imp_S (ps_expr he hs) fun E σ H ⟨fr, F, ρ, n, r, n', R, e, k⟩ => by
  rcases r with z | o
  · exact R.dE e (KS.x k) fun _ _ _ _ _ _ h _ _ _ => (M.pure_err h).elim
  obtain ⟨x, n1, e1, h⟩ := M.bind_ok e
  obtain ⟨h1, h2⟩ := M.pure_ok h
  subst h1 h2
  exact ⟨fr, F, ρ, n, .ok x, _, R, e1, fun F1 H1 v R1 s1 d1 => k F1 H1 σ R1 s1⟩
theorem S_asg {tg e : Expr} {f : EX} {t : TG} {g : GX} {pos : Pos} (he : PD X W e f) (ht : PG X tg t) {is : List Nat} (hg : GOk X.K W t g is) (hs : swapsWithSole [tg] e pos.line X.env = pure false := by rfl) (hw : swappedStores [tg] e X.env = pure none := by rfl)
    (h1 : (assignEach [tg] X.env).map (·.2) = [assign tg X.env] := by rfl) : PDS X W (.Assign [tg] e pos) (sAsg g f) := imp_S (ps_asg he ht hs hw h1) fun E σ H ⟨fr, F, ρ, n, r, n', R, e, k⟩ => by
  rcases r with z | o
  · refine R.dE e (KS.x k) fun _ _ _ _ _ _ h _ _ _ => ?_
    rcases M.bind_err h with h | ⟨_, _, _, h⟩
    · exact (M.opt_err h).elim
    · exact (M.pure_err h).elim
  obtain ⟨x, n1, e1, ha⟩ := M.bind_ok e
  obtain ⟨ρ', n2, e2, h⟩ := M.bind_ok ha
  obtain ⟨h1, h2⟩ := M.pure_ok h
  obtain ⟨h3, h4⟩ := M.opt_ok e2
  clear ha h
  subst h4
  subst h1 h2
  exact ⟨fr, F, ρ, n, .ok x, _, R, e1, fun F1 H1 v R1 s1 d1 => hg fr F1 H1 σ ρ ρ' _ v x _ R1 d1 h3 fun σ' R' _ => k F1 H1 σ' R' s1⟩
theorem S_if {c : Expr} {a b : List Stmt} {t : TX} {g h : SX} {pos : Pos} (hc : PDT X W c t) (ha : PDSs X W a g) (hb : PDSs X W b h) : PDS X W (.If c a b pos) (sIf t g h) := imp_S (ps_if hc ha hb) fun E σ H ⟨fr, F, ρ, n, r, n', R, e, k⟩ => by
  rcases r with z | o
  · refine R.tE e (KS.x k) fun b n1 F1 H1 e1 h R1 s1 => ?_
    cases b with
    | true =>
      rw [if_pos rfl]
      exact ⟨fr, F1, ρ, n1, .error z, n', R1, h, KS.mono k s1⟩
    | false =>
      rw [if_neg Bool.false_ne_true]
      exact ⟨fr, F1, ρ, n1, .error z, n', R1, h, KS.mono k s1⟩
  obtain ⟨b, n1, e1, h⟩ := M.bind_ok e
  refine ⟨fr, F, ρ, n, .ok b, n1, R, e1, fun F1 H1 R1 s1 => ?_⟩
  cases b with
  | true =>
    rw [if_pos rfl]
    exact ⟨fr, F1, ρ, n1, .ok o, n', R1, h, k.mono s1⟩
  | false =>
    rw [if_neg Bool.false_ne_true]
    exact ⟨fr, F1, ρ, n1, .ok o, n', R1, h, k.mono s1⟩
/-- a, b = x, y and a, b, c = x, y, z, all plain locals -/
def sPar (is : List Nat) (f : EXs) : SX := fun ρ => M.bind (f ρ) fun ds => if ds.length = is.length then M.pure (.nx ((is.zip ds).foldl (fun r p => r.set p.1 (.val p.2)) ρ)) else M.opt none
theorem S_par2 {i j : Nat} {x y : Str} {a b : Expr} {f : EXs} {px py pt pos : Pos} {kt k2 pt2} (h : PS X (.Assign [.Tuple [.Name x px, .Name y py] kt pt] (.Tuple [a, b] k2 pt2) pos) (tPar i j (tDs X W f))) : PDS X W (.Assign [.Tuple [.Name x px, .Name y py] kt pt] (.Tuple [a, b] k2 pt2) pos) (sPar [i, j] f) := imp_S h fun E σ H ⟨fr, F, ρ, n, r, n', R, e, k⟩ => by
  rcases r with z | o
  · refine R.dsE e (KS.x k) fun _ _ _ _ _ _ h _ _ _ => ?_
    split at h
    · exact (M.pure_err h).elim
    · exact (M.opt_err h).elim
  obtain ⟨ds, n1, e1, h⟩ := M.bind_ok e
  refine ⟨fr, F, ρ, n, .ok ds, n1, R, e1, fun F1 H1 vs R1 s1 d1 => ?_⟩
  split at h
  · obtain ⟨h1, h2⟩ := M.pure_ok h
    subst h1 h2
    cases d1 with
    | nil => simp at *
    | cons q1 d2 =>
      cases d2 with
      | nil => simp at *
      | cons q2 d3 =>
        cases d3 with
        | cons _ _ => simp at *
        | nil => exact ⟨_, _, rfl, k F1 H1 _ ((R1.set q1).set q2) s1⟩
  · cases (M.opt_ok h).1
theorem S_par3 {i j l : Nat} {x y z : Str} {a b c : Expr} {f : EXs} {px py pz pt pos : Pos} {kt k2 pt2} (h : PS X (.Assign [.Tuple [.Name x px, .Name y py, .Name z pz] kt pt] (.Tuple [a, b, c] k2 pt2) pos) (tPar3 i j l (tDs X W f))) : PDS X W (.Assign [.Tuple [.Name x px, .Name y py, .Name z pz] kt pt] (.Tuple [a, b, c] k2 pt2) pos) (sPar [i, j, l] f) := imp_S h fun E σ H ⟨fr, F, ρ, n, r, n', R, e, k⟩ => by
  rcases r with z | o
  · refine R.dsE e (KS.x k) fun _ _ _ _ _ _ h _ _ _ => ?_
    split at h
    · exact (M.pure_err h).elim
    · exact (M.opt_err h).elim
  obtain ⟨ds, n1, e1, h⟩ := M.bind_ok e
  refine ⟨fr, F, ρ, n, .ok ds, n1, R, e1, fun F1 H1 vs R1 s1 d1 => ?_⟩
  split at h
  · obtain ⟨h1, h2⟩ := M.pure_ok h
    subst h1 h2
    cases d1 with
    | nil => simp at *
    | cons q1 d2 =>
      cases d2 with
      | nil => simp at *
      | cons q2 d3 =>
        cases d3 with
        | nil => simp at *
        | cons q3 d4 =>
          cases d4 with
          | cons _ _ => simp at *
          | nil => exact ⟨_, _, _, rfl, k F1 H1 _ (((R1.set q1).set q2).set q3) s1⟩
  · cases (M.opt_ok h).1
end

/-! ### loops -/
section
variable {X : Cx} {W : Wd}
/-- an iterator that hands on ds -/
def ItOk (K : PySem.W.Frag) (W : Wd) (dr : Option Addr) (F0 : Hp) (J : It) (ds : List D) : Prop := ∀ (fr : Fr) (F H : Hp) (σ : St) (ρ : Env) (n : Int) (i : Nat), fr.dr = dr → Rel K W fr F H σ ρ n → Sub F0 F →
  (∀ d, ds[i]? = some d → J.go i H ∧ ∀ x H', J.yld i H x H' → ∃ F', Rel K W fr F' H' σ ρ n ∧ Sub F F' ∧ Den K W dr F' x d) ∧ (i = ds.length → J.stop i H)
abbrev IX := Env → M (List D)
def tI (X : Cx) (W : Wd) (f : IX) : TI := fun σ H R => ∃ fr F ρ n r n', Rel X.K W fr F H σ ρ n ∧ f ρ n = some (r, n') ∧
  Res (fun ds => ∀ F' H' J, Rel X.K W fr F' H' σ ρ n' → Sub F F' → ItOk X.K W fr.dr F' J ds → R J H') (KX X W fr F σ ρ n') r
abbrev PDI (X : Cx) (W : Wd) (tg e : Expr) (f : IX) : Prop := PI X tg e (tI X W f)
theorem imp_I {tg e : Expr} {t t' : TI} (h : PI X tg e t) (k : ∀ σ H R, t' σ H R → t σ H R) : PI X tg e t' := ⟨fun pins s σ H R I q => h.run pins s σ H R I (k σ H R q)⟩
def iSeq (K : PySem.W.Frag) (tl : TE) : TI := fun σ H R => tl σ H fun x H1 => ∃ a, x = .ref a ∧ (((∃ xs, SqL K H1 a xs) ∧ R (Itl K a) H1) ∨ ((∃ xs, SqT K H1 a xs) ∧ R (Itt K a) H1))
theorem pi_seq {tg l : Expr} {tl : TE} (hl : PE X l tl) : PI X tg l (iSeq X.K tl) := by
  refine ⟨fun pins s σ H R I h => ?_⟩
  refine thn (hl.run pins s σ H _ I h) fun v s1 ⟨x, H1, I1, r1, q1⟩ => ?_
  obtain ⟨a, e, q⟩ := q1
  subst e
  cases r1
  rcases q with ⟨⟨xs, hq⟩, q⟩ | ⟨⟨xs, hq⟩, q⟩
  · obtain ⟨its, rv, p, hz⟩ := I1.list hq
    refine wpAny_pyIter_list p.isList ?_
    refine ⟨s1.heap.objs.size, [s1.heap.objs.size], _, _, H1, rfl, I1.kept (t' := s1.toks) fun b o e => Heap.get?_push_of_some _ e, turn_list a _, ⟨_, Heap.get?_push_size _ rfl, rfl, rfl⟩, fun b hb => ?_, q⟩
    have e : b = s1.heap.objs.size := by simpa using hb
    subst e
    exact I1.fpOk (Nat.le_refl _) (I1.hok.fresh (Nat.le_refl _))
  · obtain ⟨its, rv, p, hz⟩ := I1.tuple hq
    refine wpAny_pyIter_tuple (show s1.heap.IsTuple a its.toArray from p) ?_
    refine ⟨s1.heap.objs.size, [s1.heap.objs.size], _, _, H1, rfl, I1.kept (t' := s1.toks) fun b o e => Heap.get?_push_of_some _ e, turn_tuple a _, ⟨_, Heap.get?_push_size _ rfl, rfl, rfl⟩, fun b hb => ?_, q⟩
    have e : b = s1.heap.objs.size := by simpa using hb
    subst e
    exact I1.fpOk (Nat.le_refl _) (I1.hok.fresh (Nat.le_refl _))
def dItems : D → Option (List D)
  | .tup xs => some xs
  | .lst xs => some xs
  | .scr => none
  | _ => none
def iOf (f : EX) : IX := fun ρ => M.bind (f ρ) fun d => M.opt (dItems d)
theorem it_list {K : PySem.W.Frag} {dr : Option Addr} {F0 : Hp} {a : Addr} {vs : List V} {ds : List D} (h : F0 a = some (.lst vs)) (hd : Dens K W dr F0 vs ds) : ItOk K W dr F0 (Itl K a) ds := fun fr F H σ ρ n i edr R s => by
  have hH : H a = some (.lst vs) := R.core.sub _ _ (s _ _ h)
  refine ⟨fun d e => ?_, fun e => ⟨vs, SqL.of hH, by rw [hd.length, e]; exact Nat.le_refl _⟩⟩
  obtain ⟨v, e1, e2⟩ := hd.get e
  refine ⟨⟨vs, v, SqL.of hH, e1⟩, fun x H' ⟨q1, q2⟩ => ?_⟩
  subst q1
  have := q2 vs (SqL.of hH)
  rw [e1] at this
  cases this
  exact ⟨F, R, Sub.refl _, e2.mono s fun _ z => z⟩
theorem it_tup {K : PySem.W.Frag} {dr : Option Addr} {F0 : Hp} {a : Addr} {vs : List V} {ds : List D} (h : SqT K F0 a vs) (hd : Dens K W dr F0 vs ds) : ItOk K W dr F0 (Itt K a) ds := fun fr F H σ ρ n i edr R s => by
  have hH : SqT K H a vs := R.core.sub.sqT (s.sqT h)
  refine ⟨fun d e => ?_, fun e => ⟨vs, hH, by rw [hd.length, e]; exact Nat.le_refl _⟩⟩
  obtain ⟨v, e1, e2⟩ := hd.get e
  refine ⟨⟨vs, v, hH, e1⟩, fun x H' ⟨q1, q2⟩ => ?_⟩
  subst q1
  have := q2 vs hH
  rw [e1] at this
  cases this
  exact ⟨F, R, Sub.refl _, e2.mono s fun _ z => z⟩
theorem i_of {tg l : Expr} {f : EX} (h : PD X W l f) : PDI X W tg l (iOf f) := imp_I (pi_seq h) fun σ H R ⟨fr, F, ρ, n, r, n', R0, e, k⟩ => by
  rcases r with z | ds
  · exact R0.dE1 e k
  obtain ⟨x, n1, e1, h⟩ := M.bind_ok e
  obtain ⟨h1, h2⟩ := M.opt_ok h
  subst h2
  refine ⟨fr, F, ρ, n, .ok x, _, R0, e1, fun F1 H1 v R1 s1 d1 => ?_⟩
  unfold dItems at h1
  split at h1
  · cases h1
    cases d1 with
    | tup q1 q2 => exact ⟨_, rfl, .inr ⟨⟨_, R1.core.sub.sqT q1⟩, k F1 H1 _ R1 s1 (it_tup q1 q2)⟩⟩
  · cases h1
    cases d1 with
    | lst q1 q2 => exact ⟨_, rfl, .inl ⟨⟨_, SqL.of (R1.core.sub _ _ q1)⟩, k F1 H1 _ R1 s1 (it_list q1 q2)⟩⟩
  · cases h1
  · cases h1
/-- range -/
def rngD (lo hi : Int) : List D := (List.range (hi - lo).toNat).map fun i => .int (lo + (i : Nat))
theorem it_rng {K : PySem.W.Frag} {dr : Option Addr} {F0 : Hp} {lo hi : Int} : ItOk K W dr F0 (Itr lo (hi - lo).toNat) (rngD lo hi) := fun fr F H σ ρ n i edr R s => by
  have hl : (rngD lo hi).length = (hi - lo).toNat := by simp [rngD]
  refine ⟨fun d e => ?_, fun e => by show (hi - lo).toNat ≤ i; rw [e, hl]; exact Nat.le_refl _⟩
  have hi' : i < (hi - lo).toNat := by
    have := (List.getElem?_eq_some_iff.mp e).1
    omega
  refine ⟨hi', fun x H' ⟨q1, q2⟩ => ?_⟩
  subst q1 q2
  refine ⟨F, R, Sub.refl _, ?_⟩
  have : d = .int (lo + (i : Nat)) := by
    simp [rngD, hi'] at e
    exact e.symm
  rw [this]
  exact .int _
def small62 (i : Int) : Bool := decide (-(2 ^ 62) ≤ i) && decide (i < 2 ^ 62)
theorem small62_ok {i : Int} (h : small62 i = true) : -(2 ^ 62) ≤ i ∧ i < 2 ^ 62 := by
  unfold small62 at h
  simp only [Bool.and_eq_true, decide_eq_true_eq] at h
  exact h
def dRng1 : List D → Option (List D)
  | [.int j] => if small62 j then some (rngD 0 j) else none
  | _ => none
def dRng2 : List D → Option (List D)
  | [.int i, .int j] => if small62 i && small62 j then some (rngD i j) else none
  | _ => none
def iRng1D (f : EXs) : IX := fun ρ => M.bind (f ρ) fun ds => M.opt (dRng1 ds)
def iRng2D (f : EXs) : IX := fun ρ => M.bind (f ρ) fun ds => M.opt (dRng2 ds)
theorem i_rng1 {tg a : Expr} {f : EXs} {p pos : Pos} (hg : Gl X "range") (hm : X.mg "range" = none) (ha : PDs X W [a] f) (hs : starEach [a] X.env = [(false, eval a X.env)] := by rfl) : PDI X W tg (.Call (.Name "range" p) [a] [] pos) (iRng1D f) := imp_I (pi_range1 hg hm ha hs) fun σ H R ⟨fr, F, ρ, n, r, n', R0, e, k⟩ => by
  rcases r with z | ds
  · exact R0.dsE1 e k
  obtain ⟨x, n1, e1, h⟩ := M.bind_ok e
  obtain ⟨h1, h2⟩ := M.opt_ok h
  subst h2
  refine ⟨fr, F, ρ, n, .ok x, _, R0, e1, fun F1 H1 vs R1 s1 d1 => ?_⟩
  unfold dRng1 at h1
  split at h1
  · split at h1
    · rename_i j q
      cases h1
      cases d1 with
      | cons q1 q2 =>
        cases q2; cases q1
        obtain ⟨a1, a2⟩ := small62_ok q
        refine ⟨_, rfl, a1, a2, k F1 H1 _ R1 s1 ?_⟩
        have := it_rng (K := X.K) (W := W) (dr := fr.dr) (F0 := F1) (lo := 0) (hi := j)
        rw [Int.sub_zero] at this
        exact this
    · cases h1
  · cases h1
theorem i_rng2 {tg a b : Expr} {f : EXs} {p pos : Pos} (hg : Gl X "range") (hm : X.mg "range" = none) (ha : PDs X W [a, b] f) (hs : starEach [a, b] X.env = [(false, eval a X.env), (false, eval b X.env)] := by rfl) (hs2 : starEach [b] X.env = [(false, eval b X.env)] := by rfl) : PDI X W tg (.Call (.Name "range" p) [a, b] [] pos) (iRng2D f) := imp_I (pi_range2 hg hm ha hs hs2) fun σ H R ⟨fr, F, ρ, n, r, n', R0, e, k⟩ => by
  rcases r with z | ds
  · exact R0.dsE1 e k
  obtain ⟨x, n1, e1, h⟩ := M.bind_ok e
  obtain ⟨h1, h2⟩ := M.opt_ok h
  subst h2
  refine ⟨fr, F, ρ, n, .ok x, _, R0, e1, fun F1 H1 vs R1 s1 d1 => ?_⟩
  unfold dRng2 at h1
  split at h1
  · split at h1
    · rename_i i j q
      cases h1
      rw [Bool.and_eq_true] at q
      cases d1 with
      | cons q1 q2 =>
        cases q2 with
        | cons q3 q4 =>
          cases q4; cases q1; cases q3
          obtain ⟨a1, a2⟩ := small62_ok q.1
          obtain ⟨a3, a4⟩ := small62_ok q.2
          exact ⟨_, _, rfl, ⟨a1, a2, a3, a4⟩, k F1 H1 _ R1 s1 it_rng⟩
    · cases h1
  · cases h1

/-! ### for -/
def forD (g : GX) (body : SX) : List D → SX
  | [] => fun ρ => M.pure (.nx ρ)
  | d :: ds => fun ρ => M.bind (M.opt (g d ρ)) fun ρ1 => M.bind (body ρ1) fun o => match o with
    | .nx ρ2 => forD g body ds ρ2
    | .ct ρ2 => forD g body ds ρ2
    | .bk ρ2 => M.pure (.nx ρ2)
    | .ret d => M.pure (.ret d)
def sFor (g : GX) (it : IX) (body : SX) : SX := fun ρ => M.bind (it ρ) fun ds => forD g body ds ρ
theorem S_for {tg iter : Expr} {b : List Stmt} {t : TG} {g : GX} {it : IX} {body : SX} {pos : Pos} (hp : PassesOwn (model X.prog X.w) X.A X.env X.xe) (hc : X.calm = true) (hi : PDI X W tg iter it) (ht : PG X tg t) {is : List Nat} (hg : GOk X.K W t g is) (hb : PDSs X W b body)
    (hs : ∀ x, foldedSetIterable iter X.env x = pure x := by intro _; rfl) : PDS X W (.For tg iter b [] pos) (sFor g it body) := imp_S (ps_for hp hc hi ht hb hs) fun E σ H ⟨fr, F, ρ, n, r, n', R, e, k⟩ => by
  rcases M.bind_any e with ⟨z, e1, rfl⟩ | ⟨ds, n1, e1, h⟩
  · exact ⟨fr, F, ρ, n, .error z, n', R, e1, KS.x k⟩
  refine ⟨fr, F, ρ, n, .ok ds, n1, R, e1, fun F1 H1 J R1 s1 ok => ?_⟩
  refine ⟨fun i m σ' H' => m = ds.length - i ∧ i ≤ ds.length ∧ ∃ F' ρ' n'', Rel X.K W fr F' H' σ' ρ' n'' ∧ Sub F1 F' ∧ forD g body (ds.drop i) ρ' n'' = some (r, n'), ⟨ds.length, by simp, Nat.zero_le _, F1, ρ, n1, R1, Sub.refl _, h⟩, ?_⟩
  rintro i m σ2 H2 ⟨rfl, hi, F2, ρ2, n2, R2, s2, e2⟩
  by_cases hlt : i < ds.length
  · refine .inr ?_
    rw [List.drop_eq_getElem_cons hlt] at e2
    rcases M.bind_any e2 with ⟨z, e3, rfl⟩ | ⟨ρ3, n3, e3, h3⟩
    · exact (M.opt_err e3).elim
    obtain ⟨e4, e5⟩ := M.opt_ok e3
    subst e5
    obtain ⟨g1, g2⟩ := (ok fr F2 H2 σ2 ρ2 _ i rfl R2 s2).1 ds[i] (by simp [hlt])
    refine ⟨g1, fun σ' H' => ∃ F' ρ' n'', Rel X.K W fr F' H' σ' ρ' n'' ∧ Sub F1 F' ∧ forD g body (ds.drop (i + 1)) ρ' n'' = some (r, n'), fun σ' H' ⟨F', ρ', n'', a1, a2, a3⟩ => ⟨_, by omega, rfl, hlt, F', ρ', n'', a1, a2, a3⟩, fun x H' y => ?_⟩
    obtain ⟨F3, R3, s3, d3⟩ := g2 x H' y
    refine hg fr F3 H' σ2 ρ2 ρ3 _ x _ _ R3 d3 e4 fun σ3 R4 _ => ?_
    rcases M.bind_any h3 with ⟨z, e6, rfl⟩ | ⟨o1, n4, e6, h4⟩
    · exact ⟨fr, F3, ρ3, _, .error z, n', R4, e6, KS.mono k ((s1.trans s2).trans s3)⟩
    refine ⟨fr, F3, ρ3, _, .ok o1, n4, R4, e6, ?_⟩
    cases o1 with
    | nx ρ5 => exact fun F5 H5 σ5 R5 s5 => ⟨F5, ρ5, n4, R5, (s2.trans s3).trans s5, h4⟩
    | ct ρ5 => exact fun F5 H5 σ5 R5 s5 => ⟨F5, ρ5, n4, R5, (s2.trans s3).trans s5, h4⟩
    | bk ρ5 =>
      obtain ⟨a1, a2⟩ := M.pure_any h4
      subst a1 a2
      exact fun F5 H5 σ5 R5 s5 => k F5 H5 σ5 R5 ((((s1.trans s2).trans s3)).trans s5)
    | ret d =>
      obtain ⟨a1, a2⟩ := M.pure_any h4
      subst a1 a2
      exact fun F5 H5 v c5 s5 d5 => k F5 H5 v c5 ((((s1.trans s2).trans s3)).trans s5) d5
  · have ei : i = ds.length := by omega
    refine .inl ⟨(ok fr F2 H2 σ2 ρ2 _ i rfl R2 s2).2 ei, ?_⟩
    rw [ei, List.drop_length] at e2
    obtain ⟨a1, a2⟩ := M.pure_any e2
    subst a1 a2
    exact k F2 H2 σ2 R2 (s1.trans s2)

/-! ### while, with so many turns at most -/
def whileD (t : TX) (body : SX) : Nat → SX
  | 0 => fun _ => M.opt none
  | m + 1 => fun ρ => M.bind (t ρ) fun b => match b with
    | false => M.pure (.nx ρ)
    | true => M.bind (body ρ) fun o => match o with
      | .nx ρ2 => whileD t body m ρ2
      | .ct ρ2 => whileD t body m ρ2
      | .bk ρ2 => M.pure (.nx ρ2)
      | .ret d => M.pure (.ret d)
def sWhile (m : Env → Nat) (t : TX) (body : SX) : SX := fun ρ => whileD t body (m ρ) ρ
theorem S_while {c : Expr} {b : List Stmt} {t : TX} {body : SX} {pos : Pos} (m : Env → Nat) (hp : PassesOwn (model X.prog X.w) X.A X.env X.xe) (hc : PDT X W c t) (hb : PDSs X W b body) : PDS X W (.While c b [] pos) (sWhile m t body) := imp_S (ps_while hp hc hb) fun E σ H ⟨fr, F, ρ, n, r, n', R, e, k⟩ => by
  refine ⟨fun j σ' H' => ∃ F' ρ' n'', Rel X.K W fr F' H' σ' ρ' n'' ∧ Sub F F' ∧ whileD t body j ρ' n'' = some (r, n'), ⟨m ρ, F, ρ, n, R, Sub.refl _, e⟩, ?_⟩
  rintro j σ1 H1 ⟨F1, ρ1, n1, R1, s1, e1⟩
  cases j with
  | zero =>
    rw [whileD] at e1
    obtain ⟨_, q⟩ := M.opt_any e1
    cases q
  | succ j =>
    rcases M.bind_any e1 with ⟨z, e2, rfl⟩ | ⟨bb, n2, e2, h2⟩
    · exact ⟨fr, F1, ρ1, n1, .error z, n', R1, e2, KX.mono (KS.x k) s1⟩
    refine ⟨fr, F1, ρ1, n1, .ok bb, n2, R1, e2, fun F2 H2 R2 s2 => ?_⟩
    cases bb with
    | false =>
      obtain ⟨a1, a2⟩ := M.pure_any h2
      subst a1 a2
      rw [if_neg Bool.false_ne_true]
      exact k F2 H2 σ1 R2 (s1.trans s2)
    | true =>
      rw [if_pos rfl]
      refine ⟨fun σ' H' => ∃ F' ρ' n'', Rel X.K W fr F' H' σ' ρ' n'' ∧ Sub F F' ∧ whileD t body j ρ' n'' = some (r, n'), fun σ' H' q => ⟨j, Nat.lt_succ_self _, q⟩, ?_⟩
      rcases M.bind_any h2 with ⟨z, e6, rfl⟩ | ⟨o1, n4, e6, h4⟩
      · exact ⟨fr, F2, ρ1, n2, .error z, n', R2, e6, KS.mono k (s1.trans s2)⟩
      refine ⟨fr, F2, ρ1, n2, .ok o1, n4, R2, e6, ?_⟩
      cases o1 with
      | nx ρ5 => exact fun F5 H5 σ5 R5 s5 => ⟨F5, ρ5, n4, R5, (s1.trans s2).trans s5, h4⟩
      | ct ρ5 => exact fun F5 H5 σ5 R5 s5 => ⟨F5, ρ5, n4, R5, (s1.trans s2).trans s5, h4⟩
      | bk ρ5 =>
        obtain ⟨a1, a2⟩ := M.pure_any h4
        subst a1 a2
        exact fun F5 H5 σ5 R5 s5 => k F5 H5 σ5 R5 ((s1.trans s2).trans s5)
      | ret d =>
        obtain ⟨a1, a2⟩ := M.pure_any h4
        subst a1 a2
        exact fun F5 H5 v c5 s5 d5 => k F5 H5 v c5 ((s1.trans s2).trans s5) d5

/-! ### comprehensions -/
def wipeD (ρ : Env) : List Nat → Env
  | [] => ρ
  | v :: vs => (wipeD ρ vs).set v .no
theorem wipeD_length (ρ : Env) : ∀ vs, (wipeD ρ vs).length = ρ.length
  | [] => rfl
  | v :: vs => by unfold wipeD; rw [List.length_set, wipeD_length ρ vs]
theorem Rel.wipe1 {K : PySem.W.Frag} {fr : Fr} {F H : Hp} {σ : St} {ρ : Env} {n : Int} (r : Rel K W fr F H σ ρ n) (i : Nat) : Rel K W fr F H (σ.set i none) (ρ.set i .no) n := by
  obtain ⟨ad, s⟩ := r.slots
  have nd : ∀ {j : Nat} {e : Sl}, e ≠ .no → (ρ.set i Sl.no)[j]? = some e → i ≠ j ∧ ρ[j]? = some e := fun {j e} ne q => by
    by_cases hj : i = j
    · subst hj
      by_cases hi : i < ρ.length
      · rw [get_set_self hi] at q; cases q; exact absurd rfl ne
      · rw [List.getElem?_eq_none (by simpa using hi)] at q; cases q
    · rw [List.getElem?_set_ne hj] at q; exact ⟨hj, q⟩
  refine ⟨r.core, ad, by simp [s.len], fun j e q => ?_, fun j e q => ?_, fun j k e e' q q' => ?_⟩
  · obtain ⟨hj, q⟩ := nd (by simp) q
    obtain ⟨v, h1, h2⟩ := s.val j e q
    exact ⟨v, by rw [List.getElem?_set_ne hj]; exact h1, h2⟩
  · obtain ⟨hj, q⟩ := nd (by simp) q
    obtain ⟨h1, h2⟩ := s.own j e q
    exact ⟨by rw [List.getElem?_set_ne hj]; exact h1, h2⟩
  · exact s.inj j k e e' (nd (by simp) q).2 (nd (by simp) q').2
theorem Rel.wipe {K : PySem.W.Frag} {fr : Fr} {F H : Hp} {σ : St} {ρ : Env} {n : Int} (r : Rel K W fr F H σ ρ n) : ∀ vs, Rel K W fr F H (wipe σ vs) (wipeD ρ vs) n
  | [] => r
  | v :: vs => by unfold L2.wipe wipeD; exact (Rel.wipe r vs).wipe1 v
/-- one's own, out of sight -/
def hide : Env → Env
  | [] => []
  | .own _ :: r => .no :: hide r
  | .no :: r => .no :: hide r
  | .val d :: r => .val d :: hide r
theorem hide_length : ∀ ρ : Env, (hide ρ).length = ρ.length
  | [] => rfl
  | .own _ :: r => by simp [hide, hide_length r]
  | .no :: r => by simp [hide, hide_length r]
  | .val _ :: r => by simp [hide, hide_length r]
theorem hide_get : ∀ (ρ : Env) (i : Nat) (e : Sl), (hide ρ)[i]? = some e → e ≠ .no → ρ[i]? = some e ∧ ∃ d, e = .val d
  | [], _, _, h, _ => by simp [hide] at h
  | .own d :: r, 0, e, h, ne => by simp [hide] at h; exact absurd h.symm ne
  | .no :: r, 0, e, h, ne => by simp [hide] at h; exact absurd h.symm ne
  | .val d :: r, 0, e, h, ne => by simp [hide] at h; exact ⟨by simp [h], d, h.symm⟩
  | .own d :: r, i + 1, e, h, ne => by simp [hide] at h; simpa using hide_get r i e h ne
  | .no :: r, i + 1, e, h, ne => by simp [hide] at h; simpa using hide_get r i e h ne
  | .val d :: r, i + 1, e, h, ne => by simp [hide] at h; simpa using hide_get r i e h ne
/-- a new run from here, with what is one's own out of sight -/
theorem Rel.inner {K : PySem.W.Frag} {fr : Fr} {F H : Hp} {σ : St} {ρ : Env} {n : Int} (r : Rel K W fr F H σ ρ n) : Rel K W (fr.at F H) F H σ (hide ρ) n := by
  obtain ⟨ad, s⟩ := r.slots
  refine ⟨r.core.at, ad, by rw [hide_length]; exact s.len, fun j e q => ?_, fun j e q => ?_, fun j k e e' q q' => ?_⟩
  · exact s.val j e (hide_get ρ j _ q (by simp)).1
  · obtain ⟨d, hd⟩ := (hide_get ρ j _ q (by simp)).2
    cases hd
  · obtain ⟨d, hd⟩ := (hide_get ρ j _ q (by simp)).2
    cases hd
/-- D is no one's own -/
def NoOwn (p : Addr) (σ : St) (ρ : Env) : Prop := ∀ (i : Nat) (d : D), ρ[i]? = some (Sl.own d) → σ[i]? ≠ some (some (.ref p))
theorem Rel.noOwn {K : PySem.W.Frag} {fr : Fr} {F H : Hp} {σ : St} {ρ : Env} {n : Int} (r : Rel K W fr F H σ ρ n) {p : Addr} (hp : H p = none) : NoOwn p σ ρ := fun i d e q => by
  obtain ⟨ad, s⟩ := r.slots
  obtain ⟨h1, _, _, _, h5, _⟩ := s.own i d e
  obtain ⟨o, ho⟩ := h5.there
  rw [h1] at q
  cases q
  rw [hp] at ho; cases ho
theorem Rel.other {K : PySem.W.Frag} {fr : Fr} {F H : Hp} {σ : St} {ρ : Env} {n : Int} (r : Rel K W fr F H σ ρ n) {p : Addr} {o : HO} (h1 : F p = none) (h2 : fr.H0 p = none) (h3 : fr.dr ≠ some p) (h4 : NoOwn p σ ρ) (h5 : ∀ u, H p = some u → ¬ Sd u) : Rel K W fr F (upd H p o) σ ρ n := by
  obtain ⟨ad, s⟩ := r.slots
  have c := r.core
  refine ⟨?_, ad, s.len, s.val, fun j e q => ?_, s.inj⟩
  · exact {
      sub := fun a u q => by rw [upd_ne (ne_of_none q h1)]; exact c.sub _ _ q
      base := fun a u q q2 q3 => by rw [upd_ne (ne_of_none q h2)]; exact c.base a u q q2 q3
      f0 := c.f0
      new := c.new
      there := fun a u q => by rw [upd_ne (ne_of_none q h2)]; exact c.there a u q
      draw := fun a e => by
        obtain ⟨q1, q2, q3⟩ := c.draw a e
        have ne : a ≠ p := fun z => h3 (by rw [← z]; exact e)
        exact ⟨q1, by rw [upd_ne ne]; exact q2, q3⟩
      ntF := c.ntF
      tabs := tabs_keep c.tabs fun a u q sd => by
        have ne : a ≠ p := fun z => by subst z; exact h5 u q sd
        rw [upd_ne ne]; exact q }
  · obtain ⟨q1, q2, q3, q4, q5, q6⟩ := s.own j e q
    have ne : ad j ≠ p := fun z => h4 j e q (by rw [q1, z])
    exact ⟨q1, q2, q3, q4, q5.mono (Sub.refl _) (fun u z => by rw [upd_ne ne]; exact z), q6⟩
theorem Rel.addF {K : PySem.W.Frag} {fr : Fr} {F H : Hp} {σ : St} {ρ : Env} {n : Int} (r : Rel K W fr F H σ ρ n) {p : Addr} {o : HO} (h0 : H p = some o) (h1 : F p = none) (h2 : fr.H0 p = none) (h3 : fr.dr ≠ some p) (h4 : NoOwn p σ ρ) (ho : NT o := by (intro _ h; cases h)) : Sub F (upd F p o) ∧ Rel K W fr (upd F p o) H σ ρ n := by
  obtain ⟨ad, s⟩ := r.slots
  have c := r.core
  have up : Sub F (upd F p o) := fun a u q => by rw [upd_ne (ne_of_none q h1)]; exact q
  refine ⟨up, ?_, ad, s.len, fun j e q => ?_, fun j e q => ?_, s.inj⟩
  · exact {
      sub := fun a u q => by
        by_cases e : a = p
        · rw [e, upd_same] at q; rw [e, h0]; exact q
        · rw [upd_ne e] at q; exact c.sub _ _ q
      base := c.base
      f0 := c.f0.trans up
      new := fun a u q q2 => by rw [upd_ne (ne_of_none q h2)]; exact c.new a u q q2
      there := c.there
      draw := fun a e => by
        obtain ⟨q1, q2, q3⟩ := c.draw a e
        have ne : a ≠ p := fun z => h3 (by rw [← z]; exact e)
        exact ⟨by rw [upd_ne ne]; exact q1, q2, up.sqL q3⟩
      ntF := fun a u q => by
        by_cases e : a = p
        · rw [e, upd_same] at q; cases q; exact ho
        · rw [upd_ne e] at q; exact c.ntF a u q
      tabs := c.tabs }
  · obtain ⟨v, q1, q2⟩ := s.val j e q
    exact ⟨v, q1, q2.mono up fun _ z => z⟩
  · obtain ⟨q1, q2, q3, q4, q5, q6⟩ := s.own j e q
    have ne : ad j ≠ p := fun z => h4 j e q (by rw [q1, z])
    exact ⟨q1, by rw [upd_ne ne]; exact q2, q3, q4, q5.mono up fun _ z => z, q6⟩

def compD (body : D → M (Option D)) : List D → M (List D)
  | [] => M.pure []
  | d :: ds => M.bind (body d) fun y => M.bind (compD body ds) fun ys => M.pure (match y with | some z => z :: ys | none => ys)
def compB (vs : List Nat) (g : GX) (t : TX) (f : EX) (ρ : Env) (d : D) : M (Option D) := M.bind (M.opt (g d (hide (wipeD ρ vs)))) fun ρ1 => M.bind (t ρ1) fun b => match b with
  | true => M.bind (f ρ1) fun y => M.pure (some y)
  | false => M.pure none
def eComp (vs : List Nat) (g : GX) (it : IX) (t : TX) (f : EX) : EX := fun ρ => M.bind (it ρ) fun ds => M.bind (M.calm (compD (compB vs g t f ρ) ds)) fun ys => M.opt (mkLst ys)
def tYesD : TX := fun _ => M.pure true
/-- what is not to raise -/
def tDk (K : PySem.W.Frag) (W : Wd) (f : EX) : TE := fun σ H Q => ∃ fr F ρ n d n', Rel K W fr F H σ ρ n ∧ f ρ n = some (.ok d, n') ∧
  ∀ F' H' v, Rel K W fr F' H' σ ρ n' → Sub F F' → Den K W fr.dr F' v d → Q v H'
def tTk (K : PySem.W.Frag) (W : Wd) (f : TX) : TT := fun σ H Q => ∃ fr F ρ n b n', Rel K W fr F H σ ρ n ∧ f ρ n = some (.ok b, n') ∧
  ∀ F' H', Rel K W fr F' H' σ ρ n' → Sub F F' → Q b H'
theorem dk {e : Expr} {f : EX} (h : PD X W e f) : PE X e (tDk X.K W f) := imp_E h fun σ H Q ⟨fr, F, ρ, n, d, n', R, e, k⟩ => ⟨fr, F, ρ, n, .ok d, n', R, e, k⟩
theorem tsk {es : List Expr} {f : TX} (h : PTs X es (tT X W f)) : PTs X es (tTk X.K W f) := ⟨fun pins s σ H Q I ⟨fr, F, ρ, n, d, n', R, e, k⟩ => h.run pins s σ H Q I ⟨fr, F, ρ, n, .ok d, n', R, e, k⟩⟩
theorem ts_nil : PTs X [] (tT X W tYesD) := by
  refine ⟨fun pins s σ H Q I ⟨fr, F, ρ, n, r, n', R, e, k⟩ => ?_⟩
  rcases r with z | b
  · exact (M.pure_err e).elim
  obtain ⟨h1, h2⟩ := M.pure_ok e
  subst h1 h2
  exact pts_nil.run pins s σ H Q I (k F H R (Sub.refl _))
theorem ts_one {c : Expr} {t : TX} (h : PDT X W c t) : PTs X [c] (tT X W t) := pts_one h
theorem d_tLc {vs : List Nat} {tg : TG} {g : GX} {is : List Nat} {it : IX} {t : TX} {f : EX} (hg : GOk X.K W tg g is) (hv : ∀ i ∈ is, i ∈ vs) {σ : St} {H : Hp} {Q : VK} (h : tD X W (eComp vs g it t f) σ H Q) : tLc (tI X W it) tg (tTk X.K W t) (tDk X.K W f) vs σ H Q := by
  obtain ⟨fr, F, ρ, n, r, n', R, e, k⟩ := h
  rcases r with z | d
  · rcases M.bind_err e with e1 | ⟨ds, n1, e1, h⟩
    · exact ⟨fr, F, ρ, n, .error z, n', R, e1, k⟩
    · rcases M.bind_err h with h | ⟨_, _, _, h⟩
      · exact (M.calm_err h).elim
      · exact (M.opt_err h).elim
  obtain ⟨ds, n1, e1, ha⟩ := M.bind_ok e
  obtain ⟨zs, n2, e2, hb⟩ := M.bind_ok ha
  obtain ⟨e3, e4⟩ := M.opt_ok hb
  replace e2 := M.calm_ok e2
  obtain ⟨e5, hz⟩ := mkLst_ok e3
  clear ha hb e3
  subst e4 e5
  refine ⟨fr, F, ρ, n, .ok ds, n1, R, e1, fun F1 H1 J R1 s1 ok => fun p hp => ?_⟩
  refine ⟨fun i m H' => m = ds.length - i ∧ i ≤ ds.length ∧ ∃ F' n'' acc dacc ys, Rel X.K W fr F' H' σ ρ n'' ∧ Sub F1 F' ∧ F' p = none ∧ H' p = some (.lst acc) ∧ Dens X.K W fr.dr F' acc dacc ∧ compD (compB vs g t f ρ) (ds.drop i) n'' = some (.ok ys, n') ∧ zs = dacc ++ ys,
    ⟨ds.length, by simp, Nat.zero_le _, F1, n1, [], [], zs, ?_, Sub.refl _, R1.core.noF hp, upd_same, .nil, e2, rfl⟩, ?_⟩
  · exact R1.other (R1.core.noF hp) (R1.core.noH0 hp) (R1.core.ndr hp) (R1.noOwn hp) (sd_no hp)
  have hH0 := R1.core.noH0 hp
  have hdr := R1.core.ndr hp
  have hno := R1.noOwn hp
  rintro i m H2 ⟨rfl, hi, F2, m2, acc, dacc, ys, R2, s2, f2, a2, d2, c2, q2⟩
  have RI : Rel X.K W (fr.at F2 H2) F2 H2 (wipe σ vs) (hide (wipeD ρ vs)) m2 := (R2.wipe vs).inner
  by_cases hlt : i < ds.length
  · refine .inr ?_
    rw [List.drop_eq_getElem_cons hlt] at c2
    obtain ⟨y, n3, c3, hc⟩ := M.bind_ok c2
    obtain ⟨yr, n4, c4, hd⟩ := M.bind_ok hc
    obtain ⟨c5, c6⟩ := M.pure_ok hd
    clear hc hd
    subst c6
    obtain ⟨ρ1, n5, b1, hb1⟩ := M.bind_ok c3
    obtain ⟨b2, b3⟩ := M.opt_ok b1
    obtain ⟨b, n6, b4, hb2⟩ := M.bind_ok hb1
    clear hb1 b1 c3
    subst b3
    obtain ⟨g1, g2⟩ := (ok (fr.at F2 H2) F2 H2 _ _ _ i rfl RI s2).1 ds[i] (by simp [hlt])
    refine ⟨g1, fun H' => ∃ F' n'' acc dacc ys, Rel X.K W fr F' H' σ ρ n'' ∧ Sub F1 F' ∧ F' p = none ∧ H' p = some (.lst acc) ∧ Dens X.K W fr.dr F' acc dacc ∧ compD (compB vs g t f ρ) (ds.drop (i + 1)) n'' = some (.ok ys, _) ∧ zs = dacc ++ ys, fun H' q => ⟨_, by omega, rfl, hlt, q⟩, fun x H' yl => ?_⟩
    obtain ⟨F3, R3, s3, d3⟩ := g2 x H' yl
    refine hg (fr.at F2 H2) F3 H' _ _ ρ1 _ x _ _ R3 d3 b2 fun σ3 R4 w4 => ⟨(w4 vs hv).trans (wipe_wipe σ vs), ?_⟩
    refine ⟨fr.at F2 H2, F3, ρ1, _, b, n6, R4, b4, fun F5 H5 R5 s5 => ?_⟩
    cases b with
    | true =>
      rw [if_pos rfl]
      obtain ⟨z, n7, b5, hb3⟩ := M.bind_ok hb2
      obtain ⟨b6, b7⟩ := M.pure_ok hb3
      clear hb2 hb3
      subst b6 b7
      refine ⟨fr.at F2 H2, F5, ρ1, n6, z, _, R5, b5, fun F6 H6 v R6 s6 d6 => ?_⟩
      have a6 : H6 p = some (.lst acc) := R6.core.base p _ (mask_of a2) hdr fun z => z
      have f6 : F6 p = none := R6.core.new p _ (mask_of a2) f2
      have s26 : Sub F2 F6 := R6.core.f0
      refine ⟨acc, a6, ?_, F6, _, acc ++ [v], dacc ++ [z], yr, (R2.back R6.core).other f6 hH0 hdr hno (sd_of a6), s2.trans s26, f6, upd_same, (d2.mono s26 fun _ z => z).append (.cons d6 .nil), c4, ?_⟩
      · have l1 := d2.length
        have l2 : zs.length = dacc.length + ys.length := by rw [q2, List.length_append]
        have l3 : ys.length = yr.length + 1 := by rw [← c5]; simp
        omega
      · rw [q2, ← c5]; simp
    | false =>
      rw [if_neg Bool.false_ne_true]
      obtain ⟨b6, b7⟩ := M.pure_ok hb2
      clear hb2
      subst b6 b7
      have a6 : H5 p = some (.lst acc) := R5.core.base p _ (mask_of a2) hdr fun z => z
      have f6 : F5 p = none := R5.core.new p _ (mask_of a2) f2
      have s26 : Sub F2 F5 := R5.core.f0
      exact ⟨F5, _, acc, dacc, yr, R2.back R5.core, s2.trans s26, f6, a6, d2.mono s26 fun _ z => z, c4, by rw [q2, ← c5]⟩
  · have ei : i = ds.length := by omega
    refine .inl ⟨(ok (fr.at F2 H2) F2 H2 _ _ _ i rfl RI s2).2 ei, ?_⟩
    rw [ei, List.drop_length] at c2
    obtain ⟨a1, a3⟩ := M.pure_ok c2
    subst a1 a3
    obtain ⟨u1, R7⟩ := R2.addF a2 f2 hH0 hdr hno
    exact k _ H2 _ R7 ((s1.trans s2).trans u1) (.lst upd_same (by rw [q2, List.append_nil]; exact d2.mono u1 fun _ z => z))
/-- [elt for tg in iter if ..] -/
theorem d_comp {vs : List Nat} {elt tg iter : Expr} {ifs : List Expr} {scope : Scope} {own : List (Str × Nat)} {pos : Pos} {t : TG} {g : GX} {is : List Nat} {it : IX} {tt : TX} {f : EX} (hc : X.calm = true) (hN : X.N.Nodup) (hi : PDI X W tg iter it) (ok : BlkOk X.N X.env.scope scope own)
    (hg : ∀ (s : Shared) (H : Hp) (C : Addr) (cl : List (Str × Addr)) (fp : List Addr), PG (X.blk s H scope (compEnvC scope cl C X.env) fp) tg t) (hq : GOk X.K W t g is) (hv : ∀ i ∈ is, i ∈ vs)
    (ht : ∀ (s : Shared) (H : Hp) (C : Addr) (cl : List (Str × Addr)) (fp : List Addr), PTs (X.blk s H scope (compEnvC scope cl C X.env) fp) ifs (tT (X.blk s H scope (compEnvC scope cl C X.env) fp) W tt))
    (he : ∀ (s : Shared) (H : Hp) (C : Addr) (cl : List (Str × Addr)) (fp : List Addr), PD (X.blk s H scope (compEnvC scope cl C X.env) fp) W elt f) (hs : ∀ x, foldedSetIterable iter X.env x = pure x := by intro _; rfl) (hvs : own.map (·.2) = vs := by rfl) :
    PD X W (.ListComp elt [⟨tg, iter, ifs, 0⟩] scope pos) (eComp vs g it tt f) := by
  subst hvs
  exact imp_E (pe_lc (tt := tTk X.K W tt) (te := tDk X.K W f) hc hN hi ok hg (fun s H C cl fp => tsk (ht s H C cl fp)) (fun s H C cl fp => dk (he s H C cl fp)) hs) fun _ _ _ h => d_tLc hq hv h
/-- y = [elt for ..], one line -/
theorem S_setComp {vs : List Nat} {i : Nat} {y : Str} {py : Pos} {elt tg iter : Expr} {ifs : List Expr} {scope : Scope} {own : List (Str × Nat)} {pos spos : Pos} {t : TG} {g : GX} {is : List Nat} {it : IX} {tt : TX} {f : EX} (hc : X.calm = true) (hN : X.N.Nodup) (hy : X.N[i]? = some y) (hyl : X.env.scope.names.lookup y = some .local)
    (hsw : swapsWith (.ListComp elt [⟨tg, iter, ifs, 0⟩] scope pos) (some (.Name y py)) spos.line X.env = pure true) (hi : PDI X W tg iter it) (ok : BlkOk X.N X.env.scope scope own)
    (hg : ∀ (s : Shared) (H : Hp) (C : Addr) (cl : List (Str × Addr)) (fp : List Addr), PG (X.blk s H scope (compEnvC scope cl C X.env) fp) tg t) (hq : GOk X.K W t g is) (hv : ∀ i ∈ is, i ∈ vs)
    (ht : ∀ (s : Shared) (H : Hp) (C : Addr) (cl : List (Str × Addr)) (fp : List Addr), PTs (X.blk s H scope (compEnvC scope cl C X.env) fp) ifs (tT (X.blk s H scope (compEnvC scope cl C X.env) fp) W tt))
    (he : ∀ (s : Shared) (H : Hp) (C : Addr) (cl : List (Str × Addr)) (fp : List Addr), PD (X.blk s H scope (compEnvC scope cl C X.env) fp) W elt f) (hs : ∀ x, foldedSetIterable iter X.env x = pure x := by intro _; rfl) (hvs : own.map (·.2) = vs := by rfl) :
    PDS X W (.Assign [.Name y py] (.ListComp elt [⟨tg, iter, ifs, 0⟩] scope pos) spos) (sAsg (gV i) (eComp vs g it tt f)) := by
  subst hvs
  refine imp_S (ps_setLc (tt := tTk X.K W tt) (te := tDk X.K W f) hc hN hy hyl hsw hi ok hg (fun s H C cl fp => tsk (ht s H C cl fp)) (fun s H C cl fp => dk (he s H C cl fp)) hs) fun E σ H ⟨fr, F, ρ, n, r, n', R, e, k⟩ => ?_
  rcases r with z | o
  · refine d_tLc hq hv (R.dE e (KS.x k) fun _ _ _ _ _ _ h _ _ _ => ?_)
    rcases M.bind_err h with h | ⟨_, _, _, h⟩
    · exact (M.opt_err h).elim
    · exact (M.pure_err h).elim
  obtain ⟨x, n1, e1, ha⟩ := M.bind_ok e
  obtain ⟨ρ', n2, e2, h⟩ := M.bind_ok ha
  obtain ⟨h1, h2⟩ := M.pure_ok h
  obtain ⟨h3, h4⟩ := M.opt_ok e2
  clear ha h
  subst h4
  subst h1 h2
  refine d_tLc hq hv ⟨fr, F, ρ, n, .ok x, _, R, e1, fun F1 H1 v R1 s1 d1 => ?_⟩
  cases h3
  exact k F1 H1 _ (R1.set d1) s1
end
end DL
end

section
set_option Elab.async false
set_option linter.all false
set_option autoImplicit false
set_option maxRecDepth 100000
namespace DL
open PySem PySem.Spec L2
open PyProof.Rows (envOfC)

/-! ### what a def promises -/
theorem fn_okX {P : Program} {w : World} {K : PySem.W.Frag} {mg : Str → Option Value} {base : Heap} {x qual : Str} {st : Stmt} {f : Addr} {fd : FuncData} {N ps : List Str} {k : Nat} {sp : Sp} (F : Fun K x qual st f fd) (S : FnScope N ps (defScope st)) (len : ∀ vs H Q E, sp vs H Q E → vs.length = ps.length)
    (body : ∀ (cdv : Value) (A : Around) (outer : List PySem.Env) (s : Shared) (H : Hp) (vs : List V) (Q : VK) (E : XK), Room k (A.deeper (envOfC qual (defScope st) s.heap.objs.size f cdv)) → sp vs H Q E →
      ∃ t, PSs (cxOf (L2.CX P w) P w K mg base N qual (defScope st) f cdv A outer s H E) (defBody st) t ∧ t { nx := fun _ H' => Q .non H', rt := Q } (L2.start N vs) H) : FnOk P w K mg base (L2.CX P w) (k + 1) f fd ps sp := by
  obtain ⟨oc, od, kV, doc, pm, an, cdv, ct, osl, rfl, lk, hcd⟩ := F.ex
  exact fn_of lk hcd S len fun A outer s H vs Q E hr => body cdv A outer s H vs Q E hr
/-- the code object that a def bears -/
def Cdv (fd : FuncData) (cdv : Value) : Prop := ∃ (x q : Str) (a : Arguments) (b : List Stmt) (sc : Scope) (dd kV doc pm : Value) (an : Option Addr) (ct : Value), fd = PySem.W.fnOf x q a b sc dd kV doc pm an cdv ct
theorem cdv_eq {x q : Str} {a : Arguments} {b : List Stmt} {sc : Scope} {dd kV doc pm : Value} {an : Option Addr} {c ct cdv : Value} (h : Cdv (PySem.W.fnOf x q a b sc dd kV doc pm an c ct) cdv) : cdv = c := by
  obtain ⟨x', q', a', b', sc', dd', kV', doc', pm', an', ct', e⟩ := h
  unfold PySem.W.fnOf at e
  injection e with e1 e2 e3 e4 e5 e6 e7 e8 e9 e10 e11 e12 e13 e14
  first | exact e1.symm | exact e2.symm | exact e3.symm | exact e4.symm | exact e5.symm | exact e6.symm | exact e7.symm | exact e8.symm | exact e9.symm | exact e10.symm | exact e11.symm | exact e12.symm | exact e13.symm | exact e14.symm
theorem fn_okXc {P : Program} {w : World} {K : PySem.W.Frag} {mg : Str → Option Value} {base : Heap} {x qual : Str} {st : Stmt} {f : Addr} {fd : FuncData} {N ps : List Str} {k : Nat} {sp : Sp} (F : Fun K x qual st f fd) (S : FnScope N ps (defScope st)) (len : ∀ vs H Q E, sp vs H Q E → vs.length = ps.length)
    (body : ∀ (cdv : Value), Cdv fd cdv → ∀ (A : Around) (outer : List PySem.Env) (s : Shared) (H : Hp) (vs : List V) (Q : VK) (E : XK), Room k (A.deeper (envOfC qual (defScope st) s.heap.objs.size f cdv)) → sp vs H Q E →
      ∃ t, PSs (cxOf (L2.CX P w) P w K mg base N qual (defScope st) f cdv A outer s H E) (defBody st) t ∧ t { nx := fun _ H' => Q .non H', rt := Q } (L2.start N vs) H) : FnOk P w K mg base (L2.CX P w) (k + 1) f fd ps sp := by
  obtain ⟨oc, od, kV, doc, pm, an, cdv, ct, osl, rfl, lk, hcd⟩ := F.ex
  exact fn_of lk hcd S len fun A outer s H vs Q E hr => body cdv ⟨_, _, _, _, _, _, _, _, _, _, _, rfl⟩ A outer s H vs Q E hr
abbrev FX := List D → M D
/-- what is answered, what is raised -/
def spD (K : PySem.W.Frag) (W : Wd) (f : FX) (m : Nat) : Sp := fun vs H Q E => vs.length = m ∧ ∃ fr F n ds r n', Core K W fr F H n ∧ Dens K W fr.dr F vs ds ∧ f ds n = some (r, n') ∧
  Res (fun d => ∀ F' H' v, Core K W (fr.at F H) F' H' n' → Den K W fr.dr F' v d → Q v H') (fun z => ∀ F' H' cls d, Core K W (fr.at F H) F' H' n' → XDen K W fr.dr F' H' z cls d → E cls d H') r
/-- a body as a function: N names, P parameters -/
def runD (N P : Nat) (g : SX) : FX := fun ds => M.bind (g (ds.map Sl.val ++ List.replicate (N - P) Sl.no)) fun o => match o with
  | .ret d => M.pure d
  | .nx _ => M.pure .non
  | _ => M.opt none
theorem start_rel {K : PySem.W.Frag} {W : Wd} {fr : Fr} {F H : Hp} {n : Int} {N : List Str} {P : Nat} {vs : List V} {ds : List D} (c : Core K W fr F H n) (d : Dens K W fr.dr F vs ds) (hl : vs.length = P) :
    Rel K W (fr.at F H) F H (L2.start N vs) (ds.map Sl.val ++ List.replicate (N.length - P) Sl.no) n := by
  have key : ∀ (i : Nat) (e : Sl), (ds.map Sl.val ++ List.replicate (N.length - P) Sl.no)[i]? = some e → e ≠ .no → ∃ d, ds[i]? = some d ∧ e = .val d := fun i e q ne => by
    by_cases hi : i < ds.length
    · rw [List.getElem?_append_left (by simpa using hi), List.getElem?_map] at q
      cases z : ds[i]? with
      | none => rw [z] at q; cases q
      | some d' => rw [z] at q; cases q; exact ⟨d', rfl, rfl⟩
    · rw [List.getElem?_append_right (by simpa using hi)] at q
      have := List.mem_of_getElem? q
      rw [List.mem_replicate] at this
      exact absurd this.2 ne
  refine ⟨c.at, fun _ => 0, ?_, fun i e q => ?_, fun i e q => ?_, fun i j e e' q q' => ?_⟩
  · unfold L2.start; simp [d.length, ← hl]
  · obtain ⟨d', h1, h2⟩ := key i _ q (by simp)
    cases h2
    obtain ⟨v, h3, h4⟩ := d.get h1
    refine ⟨v, ?_, h4⟩
    unfold L2.start
    have hi := (List.getElem?_eq_some_iff.mp h3).1
    rw [List.getElem?_append_left (by simpa using hi), List.getElem?_map, h3]; rfl
  · obtain ⟨d', h1, h2⟩ := key i _ q (by simp)
    cases h2
  · obtain ⟨d', h1, h2⟩ := key i _ q (by simp)
    cases h2
section
variable {P : Program} {w : World} {K : PySem.W.Frag} {mg : Str → Option Value} {base : Heap} {W : Wd}
/-- a def's body lets out what its callers take -/
theorem acc_of {X : Cx} {E : XK} {E₁ : Value → Shared → Prop} (hs : X.stack = X.env :: X.outer) (hf : X.env.frame = some X.env.locals) (hex : X.ex = [])
    (hx : X.xe = fun e s' => wpAny (model X.prog X.w) X.A (leaving X.env e) (fun _ s'' => L2.CX X.prog X.w X.outer X.H_0 X.s_0 E e s'') E₁ s') {cls : Value} {d : Option Addr} {σ : St} {H : Hp} (h : E cls d H) : Acc X cls d σ H :=
  Acc.of (takes_of hs hf hex hx) h
theorem okD {x qual : Str} {st : Stmt} {f : Addr} {fd : FuncData} {N ps : List Str} {k : Nat} {g : SX} (F : Fun K x qual st f fd) (S : FnScope N ps (defScope st))
    (body : ∀ (cdv : Value) (A : Around) (outer : List PySem.Env) (s : Shared) (H : Hp) (E : XK), Room k (A.deeper (envOfC qual (defScope st) s.heap.objs.size f cdv)) → PDSs (cxOf (L2.CX P w) P w K mg base N qual (defScope st) f cdv A outer s H E) W (defBody st) g) :
    FnOk P w K mg base (L2.CX P w) (k + 1) f fd ps (spD K W (runD N.length ps.length g) ps.length) := by
  refine fn_okX F S (fun vs H Q E h => h.1) fun cdv A outer s H vs Q E hr h => ?_
  obtain ⟨hl, fr, F0, n, ds, r, n', c, dd, e, k⟩ := h
  refine ⟨_, body cdv A outer s H E hr, ?_⟩
  rcases M.bind_any e with ⟨z, e1, rfl⟩ | ⟨o, n1, e1, h1⟩
  · exact ⟨fr.at F0 H, F0, _, n, .error z, n', start_rel c dd hl, e1, fun F' H' σ' cls d c' s' x => acc_of rfl rfl rfl rfl (k F' H' cls d c' x)⟩
  refine ⟨fr.at F0 H, F0, _, n, .ok o, n1, start_rel c dd hl, e1, ?_⟩
  cases o with
  | ret d' =>
    obtain ⟨a1, a2⟩ := M.pure_any h1
    subst a1 a2
    exact fun F' H' v c' s' d' => k F' H' v c' d'
  | nx ρ =>
    obtain ⟨a1, a2⟩ := M.pure_any h1
    subst a1 a2
    exact fun F' H' σ' R' s' => k F' H' _ R'.core .non
  | bk ρ => obtain ⟨_, q⟩ := M.opt_any h1; cases q
  | ct ρ => obtain ⟨_, q⟩ := M.opt_any h1; cases q
end

/-! ### calls -/
section
variable {X : Cx} {W : Wd} {k : Nat} {f C : Addr} {fd : FuncData} {ps : List Str} {x m : Str} {p pos apos : Pos} {e o : Expr} {es : List Expr}
def eCall (fx : FX) (fs : EXs) : EX := fun ρ => M.bind (fs ρ) fx
/-- a callee's wish about what it raises, at the slots -/
def EA (X : Cx) (σ : St) : XK := fun cls d H => Acc X cls d σ H
theorem passEA {σ : St} : PassesAt (L2.CX X.prog X.w) X σ (EA X σ) := passAt takesAcc σ
/-- a callee's end, back at the caller -/
theorem callee_back {fx : FX} {mm : Nat} {fr : Fr} {F F1 H1 : Hp} {σ : St} {ρ : Env} {n1 n' : Int} {ds : List D} {vs : List V} {r : Except Xc D} {Q : VK} (hl : ds.length = mm) (R1 : Rel X.K W fr F1 H1 σ ρ n1) (s1 : Sub F F1) (d1 : Dens X.K W fr.dr F1 vs ds) (h1 : fx ds n1 = some (r, n'))
    (k : Res (fun d => ∀ F' H' v, Rel X.K W fr F' H' σ ρ n' → Sub F F' → Den X.K W fr.dr F' v d → Q v H') (KX X W fr F σ ρ n') r) : spD X.K W fx mm vs H1 Q (EA X σ) := by
  refine ⟨by rw [d1.length]; exact hl, fr, F1, n1, ds, r, n', R1.core, d1, h1, ?_⟩
  cases r with
  | ok d => exact fun F2 H2 v c2 d2 => k F2 H2 v (R1.back c2) (s1.trans c2.f0) d2
  | error z => exact fun F2 H2 cls d c2 x => k F2 H2 cls d (R1.back c2) (s1.trans c2.f0) x
theorem tCall_of {fx : FX} {fs : EXs} {mm : Nat} (hm : ∀ ρ n ds n', fs ρ n = some (.ok ds, n') → ds.length = mm) {σ : St} {H : Hp} {Q : VK} (h : tD X W (eCall fx fs) σ H Q) : tCallS (spD X.K W fx mm) (EA X) (tDs X W fs) σ H Q := by
  obtain ⟨fr, F, ρ, n, r, n', R, e, k⟩ := h
  rcases M.bind_any e with ⟨z, e1, rfl⟩ | ⟨ds, n1, e1, h1⟩
  · exact ⟨fr, F, ρ, n, .error z, n', R, e1, k⟩
  · exact ⟨fr, F, ρ, n, .ok ds, n1, R, e1, fun F1 H1 vs R1 s1 d1 => callee_back (hm _ _ _ _ e1) R1 s1 d1 h1 k⟩
theorem al_nil (ρ : Env) (n : Int) (ds : List D) (n' : Int) (h : eNil ρ n = some (.ok ds, n')) : ds.length = 0 := by
  obtain ⟨a, b⟩ := M.pure_ok h
  subst a; rfl
theorem al_cons {g : EX} {fs : EXs} {mm : Nat} (hm : ∀ ρ n ds n', fs ρ n = some (.ok ds, n') → ds.length = mm) (ρ : Env) (n : Int) (ds : List D) (n' : Int) (h : eCons g fs ρ n = some (.ok ds, n')) : ds.length = mm + 1 := by
  obtain ⟨d, n1, e1, h1⟩ := M.bind_ok h
  obtain ⟨r, n2, e2, h2⟩ := M.bind_ok h1
  obtain ⟨a, b⟩ := M.pure_ok h2
  subst a
  simp [hm _ _ _ _ e2]
theorem d_call {fx : FX} {fs : EXs} {mm : Nat} (F : FnOk X.prog X.w X.K X.mg X.base (L2.CX X.prog X.w) k f fd ps (spD X.K W fx mm)) (hr : Room k X.A) (hg : Gl X x) (hm : X.mg x = some (.ref f)) (hk : PySem.W.keepIn X.K (.ref f) = true) (hb : Binds X.K fd ps [])
    (ha : PDs X W (e :: es) fs) (hl : ∀ ρ n ds n', fs ρ n = some (.ok ds, n') → ds.length = mm) (hdb : (x == ("__debug__" : Str)) = false := by decide) (he : starEach (e :: es) X.env = (false, eval e X.env) :: starEach es X.env := by rfl) (hpl : (backTo pos (starEach es X.env)).any (·.1) = false := by rfl) :
    PD X W (.Call (.Name x p) (e :: es) [] pos) (eCall fx fs) := imp_E (pe_callS (E := EA X) F hr hg hm hk hb (fun _ => passEA) ha hdb he hpl) fun _ _ _ h => tCall_of hl h
theorem d_call0 {fx : FX} (F : FnOk X.prog X.w X.K X.mg X.base (L2.CX X.prog X.w) k f fd ps (spD X.K W fx 0)) (hr : Room k X.A) (hg : Gl X x) (hm : X.mg x = some (.ref f)) (hk : PySem.W.keepIn X.K (.ref f) = true) (hb : Binds X.K fd ps []) (hdb : (x == ("__debug__" : Str)) = false := by decide) :
    PD X W (.Call (.Name x p) [] [] pos) (eCall fx eNil) := by
  refine ⟨fun pins s σ H Q I ⟨fr, G, ρ, n, r, n', R, e, k⟩ => wpAny_Call_Name_kw (ld_glob I hg hm ?_ hdb)⟩
  rcases M.bind_any e with ⟨z, e1, rfl⟩ | ⟨ds, n1, e1, h1⟩
  · exact (M.pure_err e1).elim
  obtain ⟨a, b⟩ := M.pure_ok e1
  subst a b
  have h : spD X.K W fx 0 [] H Q (EA X σ) := callee_back rfl R (Sub.refl _) .nil h1 k
  exact PySem.W.callWith_K0 I.kIn hk (run_fnS (us := []) F hr hb passEA I .nil h)

/-! ### built-ins called by name -/
theorem d_B {r : List V → Hp → VK → Prop} {op : List D → Option D} {id : String} {fs : EXs} (hc : CallR X (.builtin id) r) (hd : CallD X.K W r op) (hg : Gl X x) (hm : X.mg x = none) (hv : bootBuiltins x = some (.builtin id)) (ha : PDs X W (e :: es) fs) (hn : x ≠ "__name__" := by decide) (hdb : (x == ("__debug__" : Str)) = false := by decide)
    (he : starEach (e :: es) X.env = (false, eval e X.env) :: starEach es X.env := by rfl) (hpl : (backTo pos (starEach es X.env)).any (·.1) = false := by rfl) : PD X W (.Call (.Name x p) (e :: es) [] pos) (eB op fs) := imp_E (pe_callB hc hg hm hv ha hn hdb he hpl) fun _ _ _ h => tCB_of hd h
theorem d_Ty {r : List V → Hp → VK → Prop} {op : List D → Option D} {T : String} {fs : EXs} (hc : CallR X (.type T) r) (hd : CallD X.K W r op) (hg : Gl X x) (hm : X.mg x = none) (hv : bootBuiltins x = some (.type T)) (ha : PDs X W (e :: es) fs) (hn : x ≠ "__name__" := by decide) (hdb : (x == ("__debug__" : Str)) = false := by decide)
    (he : starEach (e :: es) X.env = (false, eval e X.env) :: starEach es X.env := by rfl) (hpl : (backTo pos (starEach es X.env)).any (·.1) = false := by rfl) : PD X W (.Call (.Name x p) (e :: es) [] pos) (eB op fs) := imp_E (pe_callTy hc hg hm hv ha hn hdb he hpl) fun _ _ _ h => tCB_of hd h
end
end DL
end

section
set_option Elab.async false
set_option linter.all false
set_option autoImplicit false
set_option maxRecDepth 100000
set_option maxHeartbeats 4000000
namespace DL
open PySem PySem.Spec PyProof.Rows L2
/-! ### tuple * int, any count -/
theorem tuple_mulS (l : Addr) (items : Array Value) (n : Nat) (dd : Option Addr) (sl : Array (Option Value)) (x : Int) (u : Tok) (c0 : (decide (x < -(2 ^ 63)) || decide (x ≥ 2 ^ 63)) = false) (c1 : (items.isEmpty || x == 1) = true) :
    Meets (Builtin.«tuple.__mul__» ⟨[.ref l, .int x u], []⟩) (fun _ R s => s.heap.get? l = some { cls := .type "tuple", dict := dd, data := .seq items n, slots := sl } ∧
      R (.ok (.ret (Value.ref l))) s) :=
  .of_wp fun prog w A R s h => by
    obtain ⟨hp, g, d, tk, os⟩ := s
    obtain ⟨hl, h⟩ := h
    have f1 := AutoSeq1.idx_int
    wp_walk using wpAny_loadPart' hl
    repeat (first
      | (refine wpAny_ite_false (decide_eq_false (by rw [c0]; exact Bool.false_ne_true)) ?_; wp_walk using wpAny_loadPart' hl)
      | (refine wpAny_ite_true (decide_eq_true c1) ?_; wp_walk using wpAny_loadPart' hl))
    exact ⟨_, rfl, h⟩
theorem tuple_mulN (l : Addr) (items : Array Value) (n : Nat) (dd : Option Addr) (sl : Array (Option Value)) (x : Int) (u : Tok) (c0 : (decide (x < -(2 ^ 63)) || decide (x ≥ 2 ^ 63)) = false) (c1 : (items.isEmpty || x == 1) = false) (c2 : (decide (x ≤ 0) || items.isEmpty) = true) :
    Meets (Builtin.«tuple.__mul__» ⟨[.ref l, .int x u], []⟩) (fun _ R s => s.heap.get? l = some { cls := .type "tuple", dict := dd, data := .seq items n, slots := sl } ∧
      R (.ok (.ret (Value.ref s.heap.objs.size))) { s with heap := s.heap.push { cls := Value.type "tuple", data := Data.seq #[] }, toks := s.toks }) :=
  .of_wp fun prog w A R s h => by
    obtain ⟨hp, g, d, tk, os⟩ := s
    obtain ⟨hl, h⟩ := h
    have f1 := AutoSeq1.idx_int
    wp_walk using wpAny_loadPart' hl
    repeat (first
      | (refine wpAny_ite_false (decide_eq_false (by rw [c0]; exact Bool.false_ne_true)) ?_; wp_walk using wpAny_loadPart' hl)
      | (refine wpAny_ite_false (decide_eq_false (by rw [c1]; exact Bool.false_ne_true)) ?_; wp_walk using wpAny_loadPart' hl)
      | (refine wpAny_ite_true (decide_eq_true c2) ?_; wp_walk using wpAny_loadPart' hl))
    exact ⟨_, rfl, h⟩
def rRepA (K : PySem.W.Frag) : R2 := fun x y H Q => ∃ l k xs, x = .ref l ∧ y = .int k ∧ SqT K H l xs ∧ -1000000 ≤ k ∧ k ≤ 1000000 ∧ ((xs.length : Nat) : Int) * k ≤ 1000000 ∧ (xs = [] ∨ k = 1 → Q (.ref l) H) ∧ (xs ≠ [] → k ≠ 1 → ∀ p, H p = none → Q (.ref p) (upd H p (.tup (List.replicate k.toNat xs).flatten)))
section
variable {X : Cx}
theorem op_repA : OpR X (binaryOp .Mult) (rRepA X.K) := by
  intro pins s σ H x y v u Q I rx ry h
  obtain ⟨l, k, xs, rfl, rfl, hT, h1, h2, hz, q1, q2⟩ := h
  cases rx
  obtain ⟨t, rfl⟩ := ry
  obtain ⟨its, r, ⟨⟨cls, dd, data, sl⟩, ho, hc, n, hd⟩, hs⟩ := I.tuple hT
  simp only at hc hd
  subst hc hd
  have hle : its.length = xs.length := r.length.symm
  have hsz0 : its.toArray.size = xs.length := by rw [List.size_toArray, hle]
  have c0 : (decide (k < -(2 ^ 63)) || decide (k ≥ 2 ^ 63)) = false := by
    rw [decide_eq_false (by omega), decide_eq_false (by omega)] <;> rfl
  by_cases hone : xs = [] ∨ k = 1
  · have c1 : (its.toArray.isEmpty || k == 1) = true := by
      rcases hone with e | e
      · subst e
        have : its = [] := List.eq_nil_of_length_eq_zero (by rw [hle]; rfl)
        subst this; rfl
      · subst e; simp
    refine wpAny_binaryOp_repeat_ref (T := "tuple") (U := "int") (by decide) ⟨_, ho, rfl⟩ (fun s' => typeIs_int s' k t) noFill_tuple_mul F.fills_int_mul F.slot_int_rmul repeat_tuple F.slot_int_index.lookup
      (call_meets F.slot_int_rmul (typeIs_int s k t) F.entry_int_rmul (F.args_int_rmul_2 _ _) (int_rmul_tuple k t l its.toArray n dd sl)
        ⟨ho, rfl, ⟨_, ho, rfl⟩, call_meets F.slot_tuple_mul ⟨_, ho, rfl⟩ F.entry_tuple_mul (F.args_tuple_mul_2 _ _) (tuple_mulS l its.toArray n dd sl k t c0 c1) ⟨ho, ?_⟩⟩)
    exact ⟨.ref l, H, I, rfl, q1 hone⟩
  · have hne : xs ≠ [] := fun e => hone (.inl e)
    have hk1 : k ≠ 1 := fun e => hone (.inr e)
    have hn : its ≠ [] := fun e => hne (by
      rw [e] at hle
      exact List.eq_nil_of_length_eq_zero hle.symm)
    have hi : its.toArray.isEmpty = false := by
      cases its with
      | nil => exact absurd rfl hn
      | cons a b => rfl
    have c1 : (its.toArray.isEmpty || k == 1) = false := by
      rw [hi, Bool.false_or]
      exact beq_eq_false_iff_ne.mpr (by omega)
    by_cases hk : k ≤ 0
    · have c2 : (decide (k ≤ 0) || its.toArray.isEmpty) = true := by
        rw [decide_eq_true hk]; rfl
      refine wpAny_binaryOp_repeat_ref (T := "tuple") (U := "int") (by decide) ⟨_, ho, rfl⟩ (fun s' => typeIs_int s' k t) noFill_tuple_mul F.fills_int_mul F.slot_int_rmul repeat_tuple F.slot_int_index.lookup
        (call_meets F.slot_int_rmul (typeIs_int s k t) F.entry_int_rmul (F.args_int_rmul_2 _ _) (int_rmul_tuple k t l its.toArray n dd sl)
          ⟨ho, rfl, ⟨_, ho, rfl⟩, call_meets F.slot_tuple_mul ⟨_, ho, rfl⟩ F.entry_tuple_mul (F.args_tuple_mul_2 _ _) (tuple_mulN l its.toArray n dd sl k t c0 c1 c2) ⟨ho, ?_⟩⟩)
      have e0 : (List.replicate k.toNat xs).flatten = [] := by
        have : k.toNat = 0 := by omega
        rw [this]; rfl
      have q2' := q2 hne hk1
      rw [e0] at q2'
      refine ⟨.ref s.heap.objs.size, _, I.laid (t' := s.toks) (o := .tup []) (fun b ob q => Heap.get?_push_of_some _ q) (Nat.le_refl _) ?_, rfl, q2' _ (I.hok.fresh (Nat.le_refl _))⟩
      exact ⟨Nat.zero_le _, [], .nil, IsTup.new _ _⟩
    · have c2 : (decide (k ≤ 0) || its.toArray.isEmpty) = false := by
        rw [hi, Bool.or_false]
        exact decide_eq_false (by omega)
      have hm : ((its.toArray.size : Nat) : Int) * k ≤ 1000000 := by rw [hsz0]; exact hz
      have c4 : Builtin.Tuple.tupleTooMany (((its.toArray.size : Nat) : Int) * k) = false := by
        unfold Builtin.Tuple.tupleTooMany
        rw [sizeLine_eq]
        exact decide_eq_false (by omega)
      have flen : k.toNat * xs.length ≤ 1000000 := by
        have : ((k.toNat * xs.length : Nat) : Int) ≤ 1000000 := by
          rw [Int.natCast_mul, Int.toNat_of_nonneg (by omega), Int.mul_comm]; exact hz
        omega
      refine wpAny_binaryOp_repeat_ref (T := "tuple") (U := "int") (by decide) ⟨_, ho, rfl⟩ (fun s' => typeIs_int s' k t) noFill_tuple_mul F.fills_int_mul F.slot_int_rmul repeat_tuple F.slot_int_index.lookup
        (call_meets F.slot_int_rmul (typeIs_int s k t) F.entry_int_rmul (F.args_int_rmul_2 _ _) (int_rmul_tuple k t l its.toArray n dd sl)
          ⟨ho, rfl, ⟨_, ho, rfl⟩, call_meets F.slot_tuple_mul ⟨_, ho, rfl⟩ F.entry_tuple_mul (F.args_tuple_mul_2 _ _) (tuple_mulW l its.toArray n dd sl k t c0 c1 c2 (by omega) c4 (by rw [size_rep, List.size_toArray, PyProof.Rows.lm_len_rep_flat, hle, sizeLine_eq]; omega)) ⟨ho, ?_⟩⟩)
      rw [size_rep]
      refine ⟨.ref s.heap.objs.size, _, I.laid (t' := s.toks) (o := .tup (List.replicate k.toNat xs).flatten) (fun b ob q => Heap.get?_push_of_some _ q) (Nat.le_refl _) ?_, rfl, q2 hne hk1 _ (I.hok.fresh (Nat.le_refl _))⟩
      exact ⟨by rw [PyProof.Rows.lm_len_rep_flat, sizeLine_eq]; omega, _, r.rep k.toNat, IsTup.new _ _⟩
end
end DL
end

section
set_option Elab.async false
set_option linter.all false
set_option autoImplicit false
set_option maxRecDepth 100000
set_option maxHeartbeats 1000000
namespace DL
open PySem PySem.Spec L2
open PyProof.Rows (envOfC)
section
variable {X : Cx} {W : Wd}
/-! ### products -/
def dMul : D → D → Option D
  | .int a, .int b => if small64 a || small64 b then some (.int (a * b)) else none
  | .tup xs, .int k => if decide (-1000000 ≤ k) && decide (k ≤ 1000000) && decide (((xs.length : Nat) : Int) * k ≤ 1000000) then some (.tup (List.replicate k.toNat xs).flatten) else none
  | _, _ => none
theorem d_mul {a b : Expr} {fa fb : EX} {pos : Pos} (ha : PD X W a fa) (hb : PD X W b fb) : PD X W (.BinOp a .Mult b pos) (e2 dMul fa fb) := d_op (op_mul.or op_repA) (by
  intro fr F H σ ρ n x y d v u Q R dx dy h k
  unfold dMul at h
  split at h
  · split at h
    · rename_i q
      rw [Bool.or_eq_true] at q
      cases dx; cases dy; cases h
      exact .inl ⟨_, _, rfl, rfl, q.imp small64_ok small64_ok, k F H _ R (Sub.refl _) (.int _)⟩
    · cases h
  · split at h
    · rename_i xs kk q
      simp only [Bool.and_eq_true, decide_eq_true_eq] at q
      cases dx with
      | tup h1 h2 =>
        cases dy; cases h
        refine .inr ⟨_, _, _, rfl, rfl, R.core.sub.sqT h1, q.1.1, q.1.2, by rw [h2.length]; exact q.2, fun e => ?_, fun e1 e2 => put_tup R (h2.rep _) k⟩
        have : (List.replicate kk.toNat xs).flatten = xs := by
          rcases e with e | e
          · rw [(dens_ne h2).mp e]; simp
          · subst e; simp
        rw [this] at k
        exact k F H _ R (Sub.refl _) (.tup h1 h2)
    · cases h
  · cases h) ha hb

/-! ### attributes, methods, instances -/
def dFld (c : Nat) (f : Str) : D → Option D
  | .obj c' ks vs => if c' = c then (ks.zip vs).lookup f else none
  | _ => none
theorem lookup_zip {K : PySem.W.Frag} {dr : Option Addr} {F : Hp} {f : Str} {d : D} : ∀ {ks : List Str} {vs : List V} {ds : List D}, ks.length = vs.length → Dens K W dr F vs ds → (ks.zip ds).lookup f = some d → ∃ v, (ks.zip vs).lookup f = some v ∧ Den K W dr F v d
  | [], _, _, _, _, e => by simp at e
  | k :: ks, [], _, l, _, _ => by simp at l
  | k :: ks, v :: vs, _, l, .cons h r, e => by
    rw [List.zip_cons_cons, List.lookup_cons] at e
    rw [List.zip_cons_cons, List.lookup_cons]
    split at e
    · cases e
      exact ⟨v, rfl, h⟩
    · exact lookup_zip (by simpa using l) r e
theorem lookup_zip_none {f : Str} : ∀ {ks : List Str} {vs : List V} {ds : List D}, ks.length = vs.length → vs.length = ds.length → (ks.zip ds).lookup f = none → (ks.zip vs).lookup f = none
  | [], _, _, _, _, _ => by simp
  | k :: ks, [], _, l, _, _ => by simp at l
  | k :: ks, v :: vs, [], _, l, _ => by simp at l
  | k :: ks, v :: vs, d :: ds, l, l', e => by
    rw [List.zip_cons_cons, List.lookup_cons] at e
    rw [List.zip_cons_cons, List.lookup_cons]
    split at e
    · cases e
    · exact lookup_zip_none (by simpa using l) (by simpa using l') e
theorem d_fld {e : Expr} {f : Str} {fx : EX} {c : Nat} {pos : Pos} (cl : Cls X.K (W.cl c)) (na : NoAttr X.K (W.cl c) f) (he : PD X W e fx) (hb : attributeBase e f X.env (eval e X.env) = eval e X.env := by rfl) : PD X W (.Attribute e f pos) (e1 (dFld c f) fx) := imp_E (pe_fld he hb) fun σ H Q ⟨fr, F, ρ, n, r, n', R, e, k⟩ => by
  rcases r with z | d
  · exact R.dE1 e k
  obtain ⟨x, n1, h1, h⟩ := M.bind_ok e
  obtain ⟨h2, h3⟩ := M.opt_ok h
  subst h3
  refine ⟨fr, F, ρ, n, .ok x, _, R, h1, fun F1 H1 v R1 s1 d1 => ?_⟩
  unfold dFld at h2
  split at h2
  · split at h2
    · rename_i c' ks vs q
      subst q
      cases d1 with
      | obj l hF hd =>
        obtain ⟨u, e1, e2⟩ := lookup_zip l hd h2
        exact ⟨_, _, _, _, u, rfl, R1.core.sub _ _ hF, cl, na, e1, k F1 H1 u R1 s1 e2⟩
    · cases h2
  · cases h2
/-- o.m(..): o, then the others -/
def isObj (c : Nat) (m : Str) : D → Bool
  | .obj c' ks vs => decide (c' = c) && ((ks.zip vs).lookup m).isNone
  | _ => false
def eMeth (c : Nat) (m : Str) (fx : FX) (fo : EX) (fs : EXs) : EX := fun ρ => M.bind (fo ρ) fun o => if isObj c m o then M.bind (fs ρ) fun ds => fx (o :: ds) else M.opt none
/-- o.m(..) where what is raised is wished for at the slots -/
def tMethS (C : Addr) (m : Str) (sp : Sp) (E : St → XK) (ta : TE) (t : TA) : TE := fun σ H Q => ta σ H fun x H1 => ∃ a dx fs, x = .ref a ∧ H1 a = some (.ins C dx fs) ∧ fs.lookup m = none ∧ t σ H1 fun vs H2 => sp (.ref a :: vs) H2 Q (E σ)
theorem pe_methS {C : Addr} {CX : CXT} {k : Nat} {f : Addr} {fd : FuncData} {ps : List Str} {m : Str} {pos apos : Pos} {e o : Expr} {es : List Expr} {sp : Sp} {E : St → XK} {ta : TE} {t : TA} {pl : Sem Bool} (ho : PE X o ta) (cl : Cls X.K C) (hm : Meth X.K C m f)
    (F : FnOk X.prog X.w X.K X.mg X.base CX k f fd ps sp) (hr : Room k X.A) (hb : Binds X.K fd ps []) (hx : ∀ σ, PassesAt CX X σ (E σ)) (ha : PA X (e :: es) t)
    (hst : starEach (e :: es) X.env = (false, eval e X.env) :: starEach es X.env) (hpl : (backTo pos (starEach es X.env)).any (·.1) = false)
    (ht : eval (.Call (.Attribute o m apos) (e :: es) [] pos) X.env = (do
      let ov ← eval o X.env
      standAt apos.atName
      let (f, first) ← holding [ov] (getMethod ov m pl)
      callWith pos f first (backTo pos (starEach (e :: es) X.env)) (backToKw pos (keywordEach [] X.env)))) : PE X (.Call (.Attribute o m apos) (e :: es) [] pos) (tMethS C m sp E ta t) := by
  constructor
  intro pins s σ H Q I h
  refine PySem.W.methodCall_KW (pl := pl) (thn (ho.run pins s σ H _ I h) ?_) ht
  rintro u s1 ⟨x, H1, I1, rx, a, dx, fs, ex, ea, l, q⟩
  subst ex
  have eu : RelV (.ref a) (.ref a) := rfl
  have ev : u = Value.ref a := rx
  subst ev
  refine getmeth_ok I1 ea cl hm l (PySem.W.callWith_K (h₀ := X.base) (first := [.ref a]) I.ok.mod.kin hm.kp (thn (ha.run pos pins s1 σ H1 _ I1 q) ?_) hst hpl)
  rintro us s2 ⟨vs, H2, I2, r, q2⟩
  exact ⟨I2.kIn, run_fnS (us := .ref a :: us) (vs := .ref a :: vs) F hr hb (hx σ) I2 (.cons eu r) q2⟩
theorem pe_meth0S {C : Addr} {CX : CXT} {k : Nat} {f : Addr} {fd : FuncData} {ps : List Str} {m : Str} {pos apos : Pos} {o : Expr} {sp : Sp} {E : St → XK} {ta : TE} {pl : Sem Bool} (ho : PE X o ta) (cl : Cls X.K C) (hm : Meth X.K C m f)
    (F : FnOk X.prog X.w X.K X.mg X.base CX k f fd ps sp) (hr : Room k X.A) (hb : Binds X.K fd ps []) (hx : ∀ σ, PassesAt CX X σ (E σ))
    (ht : eval (.Call (.Attribute o m apos) [] [] pos) X.env = (do
      let ov ← eval o X.env
      standAt apos.atName
      let (f, first) ← holding [ov] (getMethod ov m pl)
      callWith pos f first (backTo pos (starEach [] X.env)) (backToKw pos (keywordEach [] X.env)))) : PE X (.Call (.Attribute o m apos) [] [] pos) (tMethS C m sp E ta tNil) := by
  constructor
  intro pins s σ H Q I h
  refine PySem.W.methodCall_KW (pl := pl) (thn (ho.run pins s σ H _ I h) ?_) ht
  rintro u s1 ⟨x, H1, I1, rx, a, dx, fs, ex, ea, l, q⟩
  subst ex
  have eu : RelV (.ref a) (.ref a) := rfl
  have ev : u = Value.ref a := rx
  subst ev
  refine getmeth_ok I1 ea cl hm l ?_
  have q : sp [.ref a] H1 Q (E σ) := q
  exact PySem.W.callWith_K0 (first := [.ref a]) I1.kIn hm.kp (run_fnS (us := [.ref a]) (vs := [.ref a]) F hr hb (hx σ) I1 (.cons eu .nil) q)
theorem tMeth_of {c : Nat} {m : Str} {fx : FX} {fo : EX} {fs : EXs} {mm : Nat} (hm : ∀ ρ n ds n', fs ρ n = some (.ok ds, n') → ds.length = mm) {σ : St} {H : Hp} {Q : VK} (h : tD X W (eMeth c m fx fo fs) σ H Q) :
    tMethS (W.cl c) m (spD X.K W fx (mm + 1)) (EA X) (tD X W fo) (tDs X W fs) σ H Q := by
  obtain ⟨fr, F, ρ, n, r, n', R, e, k⟩ := h
  rcases M.bind_any e with ⟨z, e1, rfl⟩ | ⟨o, n1, e1, h1⟩
  · exact ⟨fr, F, ρ, n, .error z, n', R, e1, k⟩
  refine ⟨fr, F, ρ, n, .ok o, n1, R, e1, fun F1 H1 v R1 s1 d1 => ?_⟩
  split at h1
  · rename_i q
    unfold isObj at q
    split at q
    · rw [Bool.and_eq_true, decide_eq_true_eq] at q
      obtain ⟨q1, q2⟩ := q
      subst q1
      cases d1 with
      | obj l hF hd =>
        refine ⟨_, _, _, rfl, R1.core.sub _ _ hF, lookup_zip_none l hd.length (Option.isNone_iff_eq_none.mp q2), ?_⟩
        rcases M.bind_any h1 with ⟨z, e2, rfl⟩ | ⟨ds, n2, e2, h2⟩
        · exact ⟨fr, F1, ρ, n1, .error z, n', R1, e2, KX.mono k s1⟩
        exact ⟨fr, F1, ρ, n1, .ok ds, n2, R1, e2, fun F2 H2 vs R2 s2 d2 => callee_back (F := F) (by rw [List.length_cons, hm _ _ _ _ e2]) R2 (s1.trans s2) (.cons (.obj l (s2 _ _ hF) (hd.mono s2 fun _ z => z)) d2) h2 k⟩
    · cases q
  · obtain ⟨_, q⟩ := M.opt_any h1
    cases q
theorem d_meth {k : Nat} {c : Nat} {f : Addr} {fd : FuncData} {ps : List Str} {m : Str} {pos apos : Pos} {e o : Expr} {es : List Expr} {fx : FX} {fo : EX} {fs : EXs} {mm : Nat} {pl : Sem Bool} (ho : PD X W o fo) (cl : Cls X.K (W.cl c)) (hm : Meth X.K (W.cl c) m f)
    (F : FnOk X.prog X.w X.K X.mg X.base (L2.CX X.prog X.w) k f fd ps (spD X.K W fx (mm + 1))) (hr : Room k X.A) (hb : Binds X.K fd ps []) (ha : PDs X W (e :: es) fs) (hl : ∀ ρ n ds n', fs ρ n = some (.ok ds, n') → ds.length = mm)
    (hst : starEach (e :: es) X.env = (false, eval e X.env) :: starEach es X.env := by rfl) (hpl : (backTo pos (starEach es X.env)).any (·.1) = false := by rfl)
    (ht : eval (.Call (.Attribute o m apos) (e :: es) [] pos) X.env = (do
      let ov ← eval o X.env
      standAt apos.atName
      let (f, first) ← holding [ov] (getMethod ov m pl)
      callWith pos f first (backTo pos (starEach (e :: es) X.env)) (backToKw pos (keywordEach [] X.env))) := by rfl) :
    PD X W (.Call (.Attribute o m apos) (e :: es) [] pos) (eMeth c m fx fo fs) := imp_E (pe_methS (E := EA X) ho cl hm F hr hb (fun _ => passEA) ha hst hpl ht) fun _ _ _ h => tMeth_of hl h
theorem d_meth0 {k : Nat} {c : Nat} {f : Addr} {fd : FuncData} {ps : List Str} {m : Str} {pos apos : Pos} {o : Expr} {fx : FX} {fo : EX} {pl : Sem Bool} (ho : PD X W o fo) (cl : Cls X.K (W.cl c)) (hm : Meth X.K (W.cl c) m f)
    (F : FnOk X.prog X.w X.K X.mg X.base (L2.CX X.prog X.w) k f fd ps (spD X.K W fx 1)) (hr : Room k X.A) (hb : Binds X.K fd ps [])
    (ht : eval (.Call (.Attribute o m apos) [] [] pos) X.env = (do
      let ov ← eval o X.env
      standAt apos.atName
      let (f, first) ← holding [ov] (getMethod ov m pl)
      callWith pos f first (backTo pos (starEach [] X.env)) (backToKw pos (keywordEach [] X.env))) := by rfl) :
    PD X W (.Call (.Attribute o m apos) [] [] pos) (eMeth c m fx fo eNil) := imp_E (pe_meth0S (E := EA X) ho cl hm F hr hb (fun _ => passEA) ht) fun σ H Q h => by
  obtain ⟨fr, F, ρ, n, r, n1, R, e1, k⟩ := tMeth_of al_nil h
  cases r with
  | error z => exact ⟨fr, F, ρ, n, .error z, n1, R, e1, k⟩
  | ok o =>
    refine ⟨fr, F, ρ, n, .ok o, n1, R, e1, fun F1 H1 v R1 s1 d1 => ?_⟩
    obtain ⟨a, dx, fs, q1, q2, q3, q4⟩ := k F1 H1 v R1 s1 d1
    obtain ⟨fr2, F2, ρ2, n2, r2, n3, R2, e2, k2⟩ := q4
    obtain ⟨b1, b2⟩ := M.pure_any e2
    subst b1 b2
    exact ⟨a, dx, fs, q1, q2, q3, k2 F2 H1 [] R2 (Sub.refl _) .nil⟩

/-! ### a new instance -/
/-- the promise of an __init__ that raises nothing: f: the arguments to the instance -/
def spI (K : PySem.W.Frag) (W : Wd) (f : FX) (c m : Nat) : Sp := fun vs H Q E => vs.length = m + 1 ∧ ∃ fr F n p dx us ds r n', vs = .ref p :: us ∧ H p = some (.ins (W.cl c) dx []) ∧ F p = none ∧ fr.dr ≠ some p ∧ Core K W fr F H n ∧ Dens K W fr.dr F us ds ∧ f ds n = some (r, n') ∧
  Res (fun d => isO d = true ∧ ∀ F' H', Core K W ⟨fr.dr, fr.sa, mask H, F, fun a => a = p⟩ F' H' n' → F' p = none → MDen K W fr.dr F' H' p d → Q .non H') (fun z => ∀ F' H' cls x, Core K W ⟨fr.dr, fr.sa, mask H, F, fun a => a = p⟩ F' H' n' → XDen K W fr.dr F' H' z cls x → E cls x H') r
def runI (N P c : Nat) (g : SX) : FX := fun ds => M.bind (g (Sl.own (.obj c [] []) :: ds.map Sl.val ++ List.replicate (N - P) Sl.no)) fun o => match o with
  | .nx (Sl.own d :: _) => M.pure d
  | _ => M.opt none
end
section
variable {P : Program} {w : World} {K : PySem.W.Frag} {mg : Str → Option Value} {base : Heap} {W : Wd}
theorem okI {x qual : Str} {st : Stmt} {f : Addr} {fd : FuncData} {N ps : List Str} {k m cc : Nat} {g : SX} (F : Fun K x qual st f fd) (S : FnScope N ps (defScope st)) (hps : ps.length = m + 1)
    (body : ∀ (cdv : Value) (A : Around) (outer : List PySem.Env) (s : Shared) (H : Hp) (E : XK), Room k (A.deeper (envOfC qual (defScope st) s.heap.objs.size f cdv)) → PDSs (cxOf (L2.CX P w) P w K mg base N qual (defScope st) f cdv A outer s H E) W (defBody st) g) :
    FnOk P w K mg base (L2.CX P w) (k + 1) f fd ps (spI K W (runI N.length (m + 1) cc g) cc m) := by
  refine fn_okX F S (fun vs H Q E h => by rw [hps]; exact h.1) fun cdv A outer s H vs Q E hr h => ?_
  obtain ⟨hl, fr, F0, n, p, dx, us, ds, r, n', rfl, hp, hF, hdr, c, dd, e, k⟩ := h
  refine ⟨_, body cdv A outer s H E hr, ?_⟩
  have c' : Core K W ⟨fr.dr, fr.sa, mask H, F0, fun a => a = p⟩ F0 H n := ⟨c.sub, fun _ _ h _ _ => (of_mask h).1, Sub.refl _, fun _ _ _ h => h, fun _ o h => ⟨o, of_mask h⟩, c.draw, c.ntF, c.tabs⟩
  have hus : us.length = m := by simpa using hl
  have key : ∀ (i : Nat) (e : Sl), (Sl.own (.obj cc [] []) :: ds.map Sl.val ++ List.replicate (N.length - (m + 1)) Sl.no)[i]? = some e → e ≠ .no → (i = 0 ∧ e = .own (.obj cc [] [])) ∨ ∃ d j, i = j + 1 ∧ ds[j]? = some d ∧ e = .val d := fun i e q ne => by
    cases i with
    | zero => left; simp at q; exact ⟨rfl, q.symm⟩
    | succ j =>
      right
      rw [List.cons_append, List.getElem?_cons_succ] at q
      by_cases hi : j < ds.length
      · rw [List.getElem?_append_left (by simpa using hi), List.getElem?_map] at q
        cases z : ds[j]? with
        | none => rw [z] at q; cases q
        | some d' => rw [z] at q; cases q; exact ⟨d', j, rfl, z, rfl⟩
      · rw [List.getElem?_append_right (by simpa using hi)] at q
        have := List.mem_of_getElem? q
        rw [List.mem_replicate] at this
        exact absurd this.2 ne
  have R : Rel K W ⟨fr.dr, fr.sa, mask H, F0, fun a => a = p⟩ F0 H (L2.start N (.ref p :: us)) (Sl.own (.obj cc [] []) :: ds.map Sl.val ++ List.replicate (N.length - (m + 1)) Sl.no) n := by
    refine ⟨c', fun _ => p, ?_, fun i e q => ?_, fun i e q => ?_, fun i j e e' q q' _ => ?_⟩
    · unfold L2.start; simp [← dd.length, hus]
    · rcases key i _ q (by simp) with ⟨_, h⟩ | ⟨d', j, rfl, h1, h2⟩
      · cases h
      · cases h2
        obtain ⟨v, h3, h4⟩ := dd.get h1
        refine ⟨v, ?_, h4⟩
        unfold L2.start
        have hi := (List.getElem?_eq_some_iff.mp h3).1
        rw [List.map_cons, List.cons_append, List.getElem?_cons_succ, List.getElem?_append_left (by simpa using hi), List.getElem?_map, h3]; rfl
    · rcases key i _ q (by simp) with ⟨rfl, h⟩ | ⟨d', j, rfl, h1, h2⟩
      · cases h
        exact ⟨rfl, hF, hdr, .inr rfl, ⟨dx, [], rfl, hp, .nil⟩, .inl ⟨rfl, rfl⟩⟩
      · cases h2
    · rcases key i _ q (by simp) with ⟨rfl, h⟩ | ⟨d', j', rfl, h1, h2⟩
      · rcases key j _ q' (by simp) with ⟨rfl, h⟩ | ⟨d', j', rfl, h1, h2⟩
        · rfl
        · cases h2
      · cases h2
  rcases M.bind_any e with ⟨z, e1, rfl⟩ | ⟨o, n1, e1, h1⟩
  · exact ⟨_, F0, _, n, .error z, n', R, e1, fun F' H' σ' cls d c' s' x => acc_of rfl rfl rfl rfl (k F' H' cls d c' x)⟩
  refine ⟨_, F0, _, n, .ok o, n1, R, e1, ?_⟩
  split at h1
  · obtain ⟨a1, a2⟩ := M.pure_any h1
    subst a1 a2
    obtain ⟨k0, k⟩ := k
    intro F' H' σ' R' s'
    obtain ⟨ad, sl⟩ := R'.slots
    obtain ⟨q1, q2, q3, q4, q5, q7⟩ := sl.own 0 _ rfl
    have q6 : ad 0 = p := by
      rcases q7 with q7 | q7
      · exact q7.2
      · rw [k0] at q7; cases q7.1
    rw [q6] at q2 q5
    exact k F' H' R'.core q2 q5
  · obtain ⟨_, q⟩ := M.opt_any h1
    cases q
end
end DL
end

section
set_option Elab.async false
set_option linter.all false
set_option autoImplicit false
set_option maxRecDepth 100000
set_option maxHeartbeats 1000000
namespace DL
open PySem PySem.Spec L2
section
variable {K : PySem.W.Frag} {W : Wd} {fr : Fr} {F F' H H2 H' : Hp} {σ : St} {ρ : Env} {n n' : Int} {x : Addr}
theorem Rel.backM (r : Rel K W fr F H σ ρ n) (hx : H x = none) (h2 : ∀ a o, H a = some o → H2 a = some o) (d : Core K W ⟨fr.dr, fr.sa, mask H2, F, fun a => a = x⟩ F' H' n') : Rel K W fr F' H' σ ρ n' := by
  have c := r.core
  have old : ∀ a o, H a = some o → NT o → fr.dr ≠ some a → H' a = some o := fun a o q nt z => d.base a o (mask_of (h2 _ _ q) nt) z fun e => by
    have e : a = x := e
    rw [e, hx] at q; cases q
  refine r.keep ⟨d.sub, fun a o q1 q2 q3 => ?_, c.f0.trans d.f0, fun a o q1 q2 => ?_, fun a o q => ?_, d.draw, d.ntF, d.tabs⟩ d.f0 old fun a o q nt z => d.new a o (mask_of (h2 _ _ q) nt) z
  · have h := c.base a o q1 q2 q3
    obtain ⟨o', q, nt⟩ := c.there a o q1
    rw [h] at q; cases q
    exact old a o h nt q2
  · obtain ⟨o', q, nt⟩ := c.there a o q1
    exact d.new a o' (mask_of (h2 _ _ q) nt) (c.new a o q1 q2)
  · obtain ⟨o', q', nt⟩ := c.there a o q
    exact d.there a o' (mask_of (h2 _ _ q') nt)
end
section
variable {X : Cx} {W : Wd} {k : Nat} {f : Addr} {fd : FuncData} {ps : List Str} {x m : Str} {p pos apos : Pos} {e o : Expr} {es : List Expr}
theorem mden_den {K : PySem.W.Frag} {dr : Option Addr} {F H : Hp} {a : Addr} {d : D} (m : MDen K W dr F H a d) (hF : F a = none) : ∃ o, H a = some o ∧ Den K W dr (upd F a o) (.ref a) d ∧ NT o := by
  have up : ∀ o, Sub F (upd F a o) := fun o b u q => by rw [upd_ne (ne_of_none q hF)]; exact q
  cases d with
  | lst ds => obtain ⟨vs, e, q⟩ := m; exact ⟨_, e, .lst upd_same (q.mono (up _) fun _ z => z), fun _ z => by cases z⟩
  | dic ks ds => obtain ⟨vs, l, e, q⟩ := m; exact ⟨_, e, .dic l (.inl upd_same) (q.mono (up _) fun _ z => z), fun _ z => by cases z⟩
  | dit ks ds => obtain ⟨vs, l, e, q⟩ := m; exact ⟨_, e, .dit l (.inl upd_same) (q.mono (up _) fun _ z => z), fun _ z => by cases z⟩
  | obj c ks ds => obtain ⟨dx, vs, l, e, q⟩ := m; exact ⟨_, e, .obj l upd_same (q.mono (up _) fun _ z => z), fun _ z => by cases z⟩
  | non => exact m.elim
  | bl _ => exact m.elim
  | int _ => exact m.elim
  | str _ => exact m.elim
  | tup _ => exact m.elim
  | drw => exact m.elim
  | scr => exact m.elim
/-- C(..) -/
def eMake (c : Nat) (fx : FX) (fs : EXs) : EX := fun ρ => M.bind (fs ρ) fun ds => M.bind (fx ds) fun d => match d with
  | .obj c' ks vs => if c' = c then M.pure (.obj c' ks vs) else M.opt none
  | _ => M.opt none
def tMakeS (C : Addr) (sp : Sp) (E : St → XK) (t : TA) : TE := fun σ H Q => t σ H fun vs H1 => ∀ x dx, H1 x = none → H1 dx = none → dx ≠ x → sp (.ref x :: vs) (upd (upd H1 dx (.own x)) x (.ins C dx [])) (fun v H2 => v = .non ∧ Q (.ref x) H2) (E σ)
theorem run_makeS {C : Addr} {CX : CXT} {sp : Sp} {E : St → XK} {pins : List (Addr × Obj)} {σ : St} {H : Hp} {s : Shared} {Q : VK} {us : List Value} {vs : List V} (Mm : Mk X.K C f) (F : FnOk X.prog X.w X.K X.mg X.base CX k f fd ps sp) (hr : Room (k + 1) X.A) (hb : Binds X.K fd ps [])
    (hx : PassesAt CX X σ (E σ)) (I : Inv X pins σ H s) (r : Vals vs us)
    (h : ∀ x dx, H x = none → H dx = none → dx ≠ x → sp (.ref x :: vs) (upd (upd H dx (.own x)) x (.ins C dx [])) (fun v H2 => v = .non ∧ Q (.ref x) H2) (E σ)) :
    wpAny (model X.prog X.w) X.A (call (.ref C) us) (EP X pins σ Q) X.xe s := by
  obtain ⟨dx, edx⟩ : ∃ dx, dx = s.heap.objs.size := ⟨_, rfl⟩
  obtain ⟨x, ex⟩ : ∃ x, x = s.heap.objs.size + 1 := ⟨_, rfl⟩
  have hq := h x dx (I.hok.fresh (by rw [ex]; exact Nat.le_succ _)) (I.hok.fresh (by rw [edx]; exact Nat.le_refl _)) (by rw [edx, ex]; exact Nat.ne_of_lt (Nat.lt_succ_self _))
  subst edx ex
  have J := Inv.made (C := C) I
  have r2 : Vals (V.ref (s.heap.objs.size + 1) :: vs) (Value.ref (s.heap.objs.size + 1) :: us) := .cons rfl r
  have hl : (Value.ref (s.heap.objs.size + 1) :: us ++ []).length = ps.length := by
    have e := r2.length
    rw [F.len _ _ _ _ hq] at e
    rw [List.append_nil]
    exact e.symm
  have b := hb _ (Value.ref (s.heap.objs.size + 1) :: us) J.kIn hl
  rw [List.append_nil] at b
  refine wpAny_call (make_map (f := f) I.kIn Mm.makes Mm.init (beq_iff_eq.mp Mm.fn) (codeAny_mono (F.run _ X.stack _ _ _ _ _ _ (E σ) (hr.make C us []) (J.env0.make C us []) b r2 hq) ?_))
  rintro (e | fl) s' hq'
  · exact hx pins _ _ e s' J hq'
  · cases fl with
    | ret u =>
      obtain ⟨v, H', I3, rv, ev, q3⟩ := J.after hq'
      rw [ev] at rv
      exact ⟨rv, V.ref (s.heap.objs.size + 1), H', I3, rfl, q3⟩
    | next => exact hq'.elim
    | brk => exact hq'.elim
    | cont => exact hq'.elim
theorem pe_makeS {C : Addr} {CX : CXT} {sp : Sp} {E : St → XK} {t : TA} (Mm : Mk X.K C f) (F : FnOk X.prog X.w X.K X.mg X.base CX k f fd ps sp) (hr : Room (k + 1) X.A) (hg : Gl X x) (hm : X.mg x = some (.ref C)) (hb : Binds X.K fd ps []) (hx : ∀ σ, PassesAt CX X σ (E σ))
    (ha : PA X (e :: es) t) (hdb : (x == ("__debug__" : Str)) = false) (he : starEach (e :: es) X.env = (false, eval e X.env) :: starEach es X.env) (hpl : (backTo pos (starEach es X.env)).any (·.1) = false) :
    PE X (.Call (.Name x p) (e :: es) [] pos) (tMakeS C sp E t) := by
  constructor
  intro pins s σ H Q I h
  refine wpAny_Call_Name_kw (ld_glob I hg hm (PySem.W.callWith_K (h₀ := X.base) I.ok.mod.kin Mm.kp (thn (ha.run pos pins s σ H _ I h) ?_) he hpl) hdb)
  rintro us s1 ⟨vs, H1, I1, r, q⟩
  exact ⟨I1.kIn, run_makeS Mm F hr hb (hx σ) I1 r q⟩
theorem tMake_of {c mm : Nat} {fx : FX} {fs : EXs} (hm : ∀ ρ n ds n', fs ρ n = some (.ok ds, n') → ds.length = mm) {σ : St} {H : Hp} {Q : VK} (h : tD X W (eMake c fx fs) σ H Q) : tMakeS (W.cl c) (spI X.K W fx c mm) (EA X) (tDs X W fs) σ H Q := by
  obtain ⟨fr, F, ρ, n, r, n', R, e, k⟩ := h
  rcases M.bind_any e with ⟨z, e1, rfl⟩ | ⟨ds, n1, e1, h1⟩
  · exact ⟨fr, F, ρ, n, .error z, n', R, e1, k⟩
  refine ⟨fr, F, ρ, n, .ok ds, n1, R, e1, fun F1 H1 vs R1 s1 d1 => ?_⟩
  intro x dx hx hdx hne
  have h2 : ∀ a o, H1 a = some o → (upd (upd H1 dx (.own x)) x (.ins (W.cl c) dx [])) a = some o := fun a o q => by
    rw [upd_ne (ne_of_none q hx), upd_ne (ne_of_none q hdx)]; exact q
  have c1 := R1.core
  have F1x := c1.noF hx
  have c3 : Core X.K W fr F1 (upd (upd H1 dx (.own x)) x (.ins (W.cl c) dx [])) n1 := ⟨fun a o q => h2 _ _ (c1.sub _ _ q), fun a o q q2 q3 => h2 _ _ (c1.base a o q q2 q3), c1.f0, c1.new, fun a o q => by
    obtain ⟨o', z, nt⟩ := c1.there a o q
    exact ⟨o', h2 _ _ z, nt⟩, fun a q => by
    obtain ⟨a1, a2, a3⟩ := c1.draw a q
    exact ⟨a1, h2 _ _ a2, a3⟩, c1.ntF, tabs_keep c1.tabs fun a o q _ => h2 _ _ q⟩
  rcases M.bind_any h1 with ⟨z, e2, rfl⟩ | ⟨d', n2, e2, h3⟩
  · exact ⟨by rw [List.length_cons, d1.length, hm _ _ _ _ e1], fr, F1, n1, x, dx, vs, ds, .error z, n', rfl, upd_same, F1x, c1.ndr hx, c3, d1, e2, fun F' H' cls d c2 xx => k F' H' cls d (R1.backM hx h2 c2) (s1.trans c2.f0) xx⟩
  split at h3
  · split at h3
    · obtain ⟨b1, b2⟩ := M.pure_any h3
      rename_i c' ks fs' q
      subst q
      subst b1 b2
      refine ⟨by rw [List.length_cons, d1.length, hm _ _ _ _ e1], fr, F1, n1, x, dx, vs, ds, .ok (.obj c' ks fs'), _, rfl, upd_same, F1x, c1.ndr hx, c3, d1, e2, rfl, fun F' H' c2 q1 q2 => ⟨rfl, ?_⟩⟩
      have R2 := R1.backM hx h2 c2
      obtain ⟨o, z1, z2, z3⟩ := mden_den q2 q1
      obtain ⟨u1, R3⟩ := R2.addF z1 q1 (c1.noH0 hx) (c1.ndr hx) (R1.noOwn hx) z3
      exact k _ H' _ R3 ((s1.trans c2.f0).trans u1) z2
    · obtain ⟨_, q⟩ := M.opt_any h3
      cases q
  · obtain ⟨_, q⟩ := M.opt_any h3
    cases q
theorem d_make {c mm : Nat} {fx : FX} {fs : EXs} (Mm : Mk X.K (W.cl c) f) (F : FnOk X.prog X.w X.K X.mg X.base (L2.CX X.prog X.w) k f fd ps (spI X.K W fx c mm)) (hr : Room (k + 1) X.A) (hg : Gl X x) (hm : X.mg x = some (.ref (W.cl c))) (hb : Binds X.K fd ps [])
    (ha : PDs X W (e :: es) fs) (hl : ∀ ρ n ds n', fs ρ n = some (.ok ds, n') → ds.length = mm) (hdb : (x == ("__debug__" : Str)) = false := by decide) (he : starEach (e :: es) X.env = (false, eval e X.env) :: starEach es X.env := by rfl) (hpl : (backTo pos (starEach es X.env)).any (·.1) = false := by rfl) :
    PD X W (.Call (.Name x p) (e :: es) [] pos) (eMake c fx fs) := imp_E (pe_makeS (E := EA X) Mm F hr hg hm hb (fun _ => passEA) ha hdb he hpl) fun _ _ _ h => tMake_of hl h

/-! ### one's own: fields, lists, dicts -/
def putKs (f : Str) : List Str → List Str
  | [] => [f]
  | g :: r => if g = f then g :: r else g :: putKs f r
def putVs {α : Type} (f : Str) (d : α) : List Str → List α → List α
  | [], _ => [d]
  | g :: r, v :: vs => if g = f then d :: vs else v :: putVs f d r vs
  | _ :: _, [] => []
theorem putKs_length {α : Type} (f : Str) (d : α) : ∀ {ks : List Str} {vs : List α}, ks.length = vs.length → (putKs f ks).length = (putVs f d ks vs).length
  | [], [], _ => rfl
  | [], _ :: _, l => by simp at l
  | g :: r, [], l => by simp at l
  | g :: r, v :: vs, l => by
    unfold putKs putVs
    split
    · exact l
    · simp [putKs_length f d (ks := r) (vs := vs) (by simpa using l)]
theorem putF_zip (f : Str) (v : V) : ∀ {ks : List Str} {vs : List V}, ks.length = vs.length → putF f v (ks.zip vs) = (putKs f ks).zip (putVs f v ks vs)
  | [], [], _ => rfl
  | [], _ :: _, l => by simp at l
  | g :: r, [], l => by simp at l
  | g :: r, u :: vs, l => by
    rw [List.zip_cons_cons]
    unfold putF putKs putVs
    split
    · rw [List.zip_cons_cons]
    · rw [List.zip_cons_cons, putF_zip f v (by simpa using l)]
theorem Dens.putVs {K : PySem.W.Frag} {dr : Option Addr} {F : Hp} (f : Str) {v : V} {d : D} (h : Den K W dr F v d) : ∀ {ks : List Str} {vs : List V} {ds : List D}, ks.length = vs.length → Dens K W dr F vs ds → Dens K W dr F (putVs f v ks vs) (putVs f d ks ds)
  | [], [], _, _, .nil => .cons h .nil
  | [], _ :: _, _, l, _ => by simp at l
  | g :: r, [], _, l, _ => by simp at l
  | g :: r, u :: vs, _, l, .cons q s => by
    unfold DL.putVs
    split
    · exact .cons h s
    · exact .cons q (Dens.putVs f h (by simpa using l) s)
def own? (ρ : Env) (i : Nat) : Option D := match ρ[i]? with
  | some (Sl.own d) => some d
  | _ => none
theorem own_some {ρ : Env} {i : Nat} {d : D} (h : own? ρ i = some d) : ρ[i]? = some (Sl.own d) := by
  unfold own? at h
  split at h
  · cases h; assumption
  · cases h
/-- what is one's own is changed by a value -/
def sUp (i : Nat) (up : D → D → Option D) (fx : EX) : SX := fun ρ => M.bind (fx ρ) fun d => M.bind (M.opt ((own? ρ i).bind (up d))) fun o => M.pure (.nx (ρ.set i (.own o)))
theorem sUp_ok {i : Nat} {up : D → D → Option D} {fx : EX} {ρ : Env} {n n' : Int} {o : Out} (h : sUp i up fx ρ n = some (.ok o, n')) : ∃ d a b, fx ρ n = some (.ok d, n') ∧ ρ[i]? = some (Sl.own a) ∧ up d a = some b ∧ o = .nx (ρ.set i (.own b)) := by
  obtain ⟨d, n1, e1, h1⟩ := M.bind_ok h
  obtain ⟨b, n2, e2, h2⟩ := M.bind_ok h1
  obtain ⟨e3, e4⟩ := M.opt_ok e2
  obtain ⟨e5, e6⟩ := M.pure_ok h2
  subst e4
  cases q : own? ρ i with
  | none => rw [q] at e3; cases e3
  | some a =>
    rw [q] at e3
    exact ⟨d, a, b, by rw [e6]; exact e1, own_some q, e3, e5.symm⟩
/-- self.f = e, self one's own -/
def uFld (c : Nat) (f : Str) (d : D) : D → Option D
  | .obj c' ks vs => if c' = c ∧ ks.length < 1000 ∧ ks.length = vs.length then some (.obj c' (putKs f ks) (putVs f d ks vs)) else none
  | _ => none
theorem S_fld {i c : Nat} {o : Expr} {f : Str} {fx : EX} {value : Expr} {pos pos' : Pos} (cl : Cls X.K (W.cl c)) (na : NoAttr X.K (W.cl c) f) (ho : PE X o (tVar i)) (hv : PD X W value fx) (hs : swapsWith value (some (.Attribute o f pos')) pos.line X.env = pure false := by rfl) : PDS X W (.Assign [.Attribute o f pos'] value pos) (sUp i (uFld c f) fx) := imp_S (ps_fld ho hv hs) fun E σ H ⟨fr, F, ρ, n, r, n', R, e, k⟩ => by
  rcases r with z | o
  · refine R.dE e (KS.x k) fun _ _ _ _ _ _ h _ _ _ => ?_
    rcases M.bind_err h with h | ⟨_, _, _, h⟩
    · exact (M.opt_err h).elim
    · exact (M.pure_err h).elim
  obtain ⟨d, a, b, e1, hi, e3, rfl⟩ := sUp_ok e
  refine ⟨fr, F, ρ, n, .ok d, n', R, e1, fun F1 H1 v R1 s1 d1 => ?_⟩
  unfold uFld at e3
  split at e3
  · split at e3
    · rename_i c' ks vs q
      obtain ⟨q1, q2, q3⟩ := q
      subst q1
      cases e3
      obtain ⟨ad, s⟩ := R1.slots
      obtain ⟨a1, a2, a3, a4, ⟨dx, us, l, a5, a6⟩, a7⟩ := s.own i _ hi
      refine ⟨_, a1, ad i, _, dx, _, rfl, a5, cl, na, ?_, ?_⟩
      · rw [List.length_zip, l, Nat.min_self]
        rw [← l]; exact q2
      · have m' : MDen X.K W fr.dr F1 (upd H1 (ad i) (.ins (W.cl c') dx (putF f v (ks.zip us)))) (ad i) (.obj c' (putKs f ks) (putVs f d ks vs)) :=
          ⟨dx, _, putKs_length f v l, by rw [upd_same, putF_zip f v l], a6.putVs f d1 l⟩
        exact k F1 _ _ (R1.change s hi m' rfl) s1
    · cases e3
  · cases e3
/-- reading a field of one's own -/
def eOwnFld (i c : Nat) (f : Str) : EX := fun ρ => M.opt ((own? ρ i).bind (dFld c f))
theorem d_ownFld {i c : Nat} {o : Expr} {f : Str} {pos : Pos} (cl : Cls X.K (W.cl c)) (na : NoAttr X.K (W.cl c) f) (ho : PE X o (tVar i)) (hb : attributeBase o f X.env (eval o X.env) = eval o X.env := by rfl) : PD X W (.Attribute o f pos) (eOwnFld i c f) := imp_E (pe_fld ho hb) fun σ H Q ⟨fr, F, ρ, n, r, n', R, e, k⟩ => by
  rcases r with z | d
  · exact (M.opt_err e).elim
  obtain ⟨h1, h2⟩ := M.opt_ok e
  subst h2
  cases q : own? ρ i with
  | none => rw [q] at h1; cases h1
  | some a =>
  rw [q] at h1
  have hi := own_some q
  have h1 : dFld c f a = some d := h1
  clear q
  unfold dFld at h1
  split at h1
  · split at h1
    · rename_i c' ks vs q
      subst q
      obtain ⟨ad, s⟩ := R.slots
      obtain ⟨a1, a2, a3, a4, ⟨dx, us, l, a5, a6⟩, a7⟩ := s.own i _ hi
      obtain ⟨u, e1, e2⟩ := lookup_zip l a6 h1
      exact ⟨_, a1, ad i, _, dx, _, u, rfl, a5, cl, na, e1, k F H u R (Sub.refl _) e2⟩
    · cases h1
  · cases h1
/-- x = [] -/
def sOwn (i : Nat) (d : D) : SX := fun ρ => M.pure (.nx (ρ.set i (.own d)))
theorem S_nil_ {i : Nat} {y : Str} {px p2 pos : Pos} (hN : X.N.Nodup) (hi : X.N[i]? = some y) (hx : Loc X.env.scope y) (hs : swapsWith (.List [] p2) (some (.Name y px)) pos.line X.env = pure false := by rfl) (hf : X.fn y = true ∨ X.env.scope.names.lookup y = some .local := by first | exact .inl rfl | exact .inr rfl | assumption) : PDS X W (.Assign [.Name y px] (.List [] p2) pos) (sOwn i (.lst [])) := imp_S (ps_set hN hi hx (pe_lst pa_nil) hs hf) fun E σ H ⟨fr, F, ρ, n, r, n', R, e, k⟩ => by
  rcases r with z | o
  · exact (M.pure_err e).elim
  obtain ⟨b1, b2⟩ := M.pure_ok e
  subst b1 b2
  exact ⟨Nat.zero_le _, fun p hp => k F _ _ (R.setOwn hp rfl ⟨[], upd_same, .nil⟩) (Sub.refl _)⟩
theorem S_dic_ {i : Nat} {y : Str} {px p2 pos : Pos} (hN : X.N.Nodup) (hi : X.N[i]? = some y) (hx : Loc X.env.scope y) (hs : swapsWith (.Dict [] [] p2) (some (.Name y px)) pos.line X.env = pure false := by rfl) (hf : X.fn y = true ∨ X.env.scope.names.lookup y = some .local := by first | exact .inl rfl | exact .inr rfl | assumption) : PDS X W (.Assign [.Name y px] (.Dict [] [] p2) pos) (sOwn i (.dic [] [])) := imp_S (ps_set hN hi hx pe_dnewK hs hf) fun E σ H ⟨fr, F, ρ, n, r, n', R, e, k⟩ => by
  rcases r with z | o
  · exact (M.pure_err e).elim
  obtain ⟨b1, b2⟩ := M.pure_ok e
  subst b1 b2
  exact fun p hp => k F _ _ (R.setOwn hp rfl ⟨[], rfl, upd_same, .nil⟩) (Sub.refl _)
theorem S_dit_ {i : Nat} {y : Str} {px p2 pos : Pos} (hN : X.N.Nodup) (hi : X.N[i]? = some y) (hx : Loc X.env.scope y) (hs : swapsWith (.Dict [] [] p2) (some (.Name y px)) pos.line X.env = pure false := by rfl) (hf : X.fn y = true ∨ X.env.scope.names.lookup y = some .local := by first | exact .inl rfl | exact .inr rfl | assumption) : PDS X W (.Assign [.Name y px] (.Dict [] [] p2) pos) (sOwn i (.dit [] [])) := imp_S (ps_set hN hi hx pe_dnewT hs hf) fun E σ H ⟨fr, F, ρ, n, r, n', R, e, k⟩ => by
  rcases r with z | o
  · exact (M.pure_err e).elim
  obtain ⟨b1, b2⟩ := M.pure_ok e
  subst b1 b2
  exact fun p hp => k F _ _ (R.setOwn hp rfl ⟨[], rfl, upd_same, .nil⟩) (Sub.refl _)
/-- x.append(e) -/
def uApp (d : D) : D → Option D
  | .lst ds => if ds.length < sizeLine then some (.lst (ds ++ [d])) else none
  | _ => none
def ownLst (i : Nat) (ρ : Env) : Option Unit := match own? ρ i with
  | some (.lst _) => some ()
  | _ => none
theorem ownLst_some {i : Nat} {ρ : Env} {u : Unit} (h : ownLst i ρ = some u) : ∃ ds, ρ[i]? = some (Sl.own (.lst ds)) := by
  unfold ownLst at h
  split at h
  · exact ⟨_, own_some ‹_›⟩
  · cases h
def sApp (i : Nat) (fx : EX) : SX := fun ρ => M.bind (M.opt (ownLst i ρ)) fun _ => sUp i uApp fx ρ
theorem S_app {i : Nat} {o e : Expr} {fx : EX} {apos cpos pos : Pos} (he : PD X W e fx) (hp : PE X (.Call (.Attribute o "append" apos) [e] [] cpos) (tBM X.K "list" rAppend (tVar i) (tCons (tD X W fx) tNil))) (hs : swapsWith (.Call (.Attribute o "append" apos) [e] [] cpos) none pos.line X.env = pure false := by rfl) : PDS X W (.Expr (.Call (.Attribute o "append" apos) [e] [] cpos) pos) (sApp i fx) := imp_S (ps_expr hp hs) fun E σ H ⟨fr, F, ρ, n, r, n', R, e, k⟩ => by
  rcases M.bind_any e with ⟨z, e0, rfl⟩ | ⟨ds0, n0, e0, e9⟩
  · exact (M.opt_err e0).elim
  clear e
  have e := e9
  clear e9
  obtain ⟨q0, q1⟩ := M.opt_ok e0
  subst q1
  obtain ⟨zs0, q0⟩ := ownLst_some q0
  rcases r with z | o
  · obtain ⟨ad0, s0⟩ := R.slots
    obtain ⟨z1, z2, z3, z4, ⟨zs, z5, z6⟩, z7⟩ := s0.own i _ q0
    refine ⟨_, z1, .inl ⟨rfl, _, SqL.of z5⟩, ?_⟩
    refine R.dE e (KS.x k) fun _ _ _ _ _ _ h _ _ _ => ?_
    rcases M.bind_err h with h | ⟨_, _, _, h⟩
    · exact (M.opt_err h).elim
    · exact (M.pure_err h).elim
  obtain ⟨d, a, b, e1, hi, e3, rfl⟩ := sUp_ok e
  unfold uApp at e3
  split at e3
  · split at e3
    · rename_i ds q
      cases e3
      obtain ⟨ad0, s0⟩ := R.slots
      obtain ⟨z1, z2, z3, z4, ⟨zs, z5, z6⟩, z7⟩ := s0.own i _ hi
      refine ⟨_, z1, .inl ⟨rfl, _, SqL.of z5⟩, fr, F, ρ, _, .ok d, _, R, e1, fun F1 H1 v R1 s1 d1 => ?_⟩
      obtain ⟨ad, s⟩ := R1.slots
      obtain ⟨a1, a2, a3, a4, ⟨us, a5, a6⟩, a7⟩ := s.own i _ hi
      have ea : ad i = ad0 i := by rw [a1] at z1; injection z1 with z1; injection z1 with z1; injection z1
      refine ⟨ad i, us, v, by rw [ea], rfl, a5, by rw [a6.length]; exact q, ?_⟩
      exact k F1 _ _ (R1.change s hi ⟨us ++ [v], upd_same, a6.append (.cons d1 .nil)⟩ rfl) s1
    · cases e3
  · cases e3
/-- from here on it is not changed any more -/
def frzE (i : Nat) (ρ : Env) : Option Env := (own? ρ i).bind fun d => if isO d then none else some (ρ.set i (.val d))
def sFrz (i : Nat) : SX := fun ρ => M.bind (M.opt (frzE i ρ)) fun ρ' => M.pure (.nx ρ')
theorem S_frz {i : Nat} {st : List Stmt} {g : SX} (h : PDSs X W st g) : PDSs X W st (sSeq (sFrz i) g) := imp_Ss h fun E σ H ⟨fr, F, ρ, n, r, n', R, e, k⟩ => by
  rcases M.bind_any e with ⟨z, e1, rfl⟩ | ⟨o1, n1, e1, h1⟩
  · rcases M.bind_err e1 with h | ⟨_, _, _, h⟩
    · exact (M.opt_err h).elim
    · exact (M.pure_err h).elim
  obtain ⟨ρ1, n2, e2, h2⟩ := M.bind_ok e1
  obtain ⟨e3, e4⟩ := M.opt_ok e2
  obtain ⟨e5, e6⟩ := M.pure_ok h2
  subst e5 e4
  subst e6
  unfold frzE at e3
  cases q : own? ρ i with
  | none => rw [q] at e3; cases e3
  | some d =>
    rw [q] at e3
    have hi := own_some q
    have e3 : (if isO d then none else some (ρ.set i (.val d))) = some ρ1 := e3
    split at e3
    · cases e3
    · rename_i hd
      cases e3
      obtain ⟨ad, s⟩ := R.slots
      have hx : fr.H0 (ad i) = none := by
        obtain ⟨a1, a2, a3, a4, a5, a6⟩ := s.own i _ hi
        rcases a6 with a6 | a6
        · exact absurd a6.1 hd
        · exact a6.2
      obtain ⟨F', s', R'⟩ := R.freeze s hi hx
      exact ⟨fr, F', _, _, r, n', R', h1, resS_mono s' k⟩
end
end DL
end

section
set_option Elab.async false
set_option linter.all false
set_option autoImplicit false
set_option maxRecDepth 100000
set_option maxHeartbeats 1000000
namespace DL
open PySem PySem.Spec L2
open PyProof.Rows (envOfC)
section
variable {X : Cx} {W : Wd} {x : Str} {p pos : Pos} {e : Expr} {es : List Expr}

/-! ### built-ins -/
def dInts : List D → Option (List Int)
  | [] => some []
  | .int i :: r => match dInts r with | some ns => some (i :: ns) | none => none
  | _ => none
theorem ints_of {K : PySem.W.Frag} {dr : Option Addr} {F : Hp} : ∀ {vs : List V} {ds : List D} {ns : List Int}, Dens K W dr F vs ds → dInts ds = some ns → vs = ns.map V.int
  | _, _, _, .nil, e => by unfold dInts at e; cases e; rfl
  | _, _, _, .cons h r, e => by
    unfold dInts at e
    split at e
    · rename_i q; cases q
    · rename_i q
      split at e
      · cases q; cases e; cases h
        rw [ints_of r ‹_›]; rfl
      · cases e
    · cases e
def dBls : List D → Option (List Bool)
  | [] => some []
  | .bl i :: r => match dBls r with | some ns => some (i :: ns) | none => none
  | _ => none
theorem bls_of {K : PySem.W.Frag} {dr : Option Addr} {F : Hp} : ∀ {vs : List V} {ds : List D} {ns : List Bool}, Dens K W dr F vs ds → dBls ds = some ns → vs = ns.map V.bl
  | _, _, _, .nil, e => by unfold dBls at e; cases e; rfl
  | _, _, _, .cons h r, e => by
    unfold dBls at e
    split at e
    · rename_i q; cases q
    · rename_i q
      split at e
      · cases q; cases e; cases h
        rw [bls_of r ‹_›]; rfl
      · cases e
    · cases e
def dSum : List D → Option D
  | [.lst ds] => match dInts ds with | some ns => some (.int ns.sum) | none => none
  | _ => none
def dAny : List D → Option D
  | [.lst ds] => match dBls ds with | some ns => some (.bl (ns.any id)) | none => none
  | _ => none
def dAll : List D → Option D
  | [.lst ds] => match dBls ds with | some ns => some (.bl (ns.all id)) | none => none
  | _ => none
theorem q_sum {K : PySem.W.Frag} : CallD K W (rSum K) dSum := by
  intro fr F H σ ρ n xs d vs Q R dx h k
  unfold dSum at h
  split at h
  · split at h
    · cases h
      cases dx with
      | cons h1 h2 =>
        cases h2
        cases h1 with
        | lst h3 h4 =>
          have := ints_of h4 ‹_›
          subst this
          exact ⟨_, _, rfl, SqL.of (R.core.sub _ _ h3), k F H _ R (Sub.refl _) (.int _)⟩
    · cases h
  · cases h
theorem q_any {K : PySem.W.Frag} : CallD K W (rAny K) dAny := by
  intro fr F H σ ρ n xs d vs Q R dx h k
  unfold dAny at h
  split at h
  · split at h
    · cases h
      cases dx with
      | cons h1 h2 =>
        cases h2
        cases h1 with
        | lst h3 h4 =>
          have := bls_of h4 ‹_›
          subst this
          exact ⟨_, _, rfl, SqL.of (R.core.sub _ _ h3), k F H _ R (Sub.refl _) (.bl _)⟩
    · cases h
  · cases h
theorem q_all {K : PySem.W.Frag} : CallD K W (rAll K) dAll := by
  intro fr F H σ ρ n xs d vs Q R dx h k
  unfold dAll at h
  split at h
  · split at h
    · cases h
      cases dx with
      | cons h1 h2 =>
        cases h2
        cases h1 with
        | lst h3 h4 =>
          have := bls_of h4 ‹_›
          subst this
          exact ⟨_, _, rfl, SqL.of (R.core.sub _ _ h3), k F H _ R (Sub.refl _) (.bl _)⟩
    · cases h
  · cases h
def dAbs : List D → Option D
  | [.int i] => some (.int (if i < 0 then -i else i))
  | _ => none
theorem q_abs {K : PySem.W.Frag} : CallD K W (fun xs H Q => ∃ i, xs = [.int i] ∧ Q (.int (if i < 0 then -i else i)) H) dAbs := by
  intro fr F H σ ρ n xs d vs Q R dx h k
  unfold dAbs at h
  split at h
  · cases h
    cases dx with
    | cons h1 h2 => cases h2; cases h1; exact ⟨_, rfl, k F H _ R (Sub.refl _) (.int _)⟩
  · cases h
def dMin2 : List D → Option D
  | [.int i, .int j] => some (.int (if j < i then j else i))
  | _ => none
def dMax2 : List D → Option D
  | [.int i, .int j] => some (.int (if j > i then j else i))
  | _ => none
theorem q_min2 {K : PySem.W.Frag} : CallD K W (fun xs H Q => ∃ i j, xs = [.int i, .int j] ∧ Q (.int (if j < i then j else i)) H) dMin2 := by
  intro fr F H σ ρ n xs d vs Q R dx h k
  unfold dMin2 at h
  split at h
  · cases h
    cases dx with
    | cons h1 h2 => cases h2 with
      | cons h2 h3 => cases h3; cases h1; cases h2; exact ⟨_, _, rfl, k F H _ R (Sub.refl _) (.int _)⟩
  · cases h
theorem q_max2 {K : PySem.W.Frag} : CallD K W (fun xs H Q => ∃ i j, xs = [.int i, .int j] ∧ Q (.int (if j > i then j else i)) H) dMax2 := by
  intro fr F H σ ρ n xs d vs Q R dx h k
  unfold dMax2 at h
  split at h
  · cases h
    cases dx with
    | cons h1 h2 => cases h2 with
      | cons h2 h3 => cases h3; cases h1; cases h2; exact ⟨_, _, rfl, k F H _ R (Sub.refl _) (.int _)⟩
  · cases h
def dInt : List D → Option D
  | [.int i] => some (.int i)
  | [.bl b] => some (.int (if b then 1 else 0))
  | _ => none
theorem q_int {K : PySem.W.Frag} : CallD K W (fun xs H Q => (∃ i, xs = [.int i] ∧ Q (.int i) H) ∨ ∃ k, xs = [.bl k] ∧ Q (.int (if k then 1 else 0)) H) dInt := by
  intro fr F H σ ρ n xs d vs Q R dx h k
  unfold dInt at h
  split at h
  · cases h
    cases dx with
    | cons h1 h2 => cases h2; cases h1; exact .inl ⟨_, rfl, k F H _ R (Sub.refl _) (.int _)⟩
  · cases h
    cases dx with
    | cons h1 h2 => cases h2; cases h1; exact .inr ⟨_, rfl, k F H _ R (Sub.refl _) (.int _)⟩
  · cases h
def dTupOf : List D → Option D
  | [.lst ds] => some (.tup ds)
  | [.tup ds] => some (.tup ds)
  | _ => none
theorem q_tupOf {K : PySem.W.Frag} : CallD K W (fun xs H Q => ∃ p ys, xs = [.ref p] ∧ ((SqL K H p ys ∧ ∀ l, H l = none → Q (.ref l) (upd H l (.tup ys))) ∨ (SqT K H p ys ∧ Q (.ref p) H))) dTupOf := by
  intro fr F H σ ρ n xs d vs Q R dx h k
  unfold dTupOf at h
  split at h
  · cases h
    cases dx with
    | cons h1 h2 =>
      cases h2
      cases h1 with
      | lst h3 h4 => exact ⟨_, _, rfl, .inl ⟨SqL.of (R.core.sub _ _ h3), put_tup R h4 k⟩⟩
  · cases h
    cases dx with
    | cons h1 h2 =>
      cases h2
      cases h1 with
      | tup h3 h4 => exact ⟨_, _, rfl, .inr ⟨R.core.sub.sqT h3, k F H _ R (Sub.refl _) (.tup h3 h4)⟩⟩
  · cases h
def dLstOf : List D → Option D
  | [.lst ds] => some (.lst ds)
  | [.tup ds] => some (.lst ds)
  | _ => none
theorem q_lstOf {K : PySem.W.Frag} : CallD K W (fun xs H Q => ∃ p ys, xs = [.ref p] ∧ (SqL K H p ys ∨ SqT K H p ys) ∧ ∀ l, H l = none → Q (.ref l) (upd H l (.lst ys))) dLstOf := by
  intro fr F H σ ρ n xs d vs Q R dx h k
  unfold dLstOf at h
  split at h
  · cases h
    cases dx with
    | cons h1 h2 =>
      cases h2
      cases h1 with
      | lst h3 h4 => exact ⟨_, _, rfl, .inl (SqL.of (R.core.sub _ _ h3)), put_lst R h4 k⟩
  · cases h
    cases dx with
    | cons h1 h2 =>
      cases h2
      cases h1 with
      | tup h3 h4 => exact ⟨_, _, rfl, .inr (R.core.sub.sqT h3), put_lst R h4 k⟩
  · cases h

/-! ### x op= e -/
def sAug (i : Nat) (op : D → D → Option D) (fx : EX) : SX := fun ρ => M.bind (eVar i ρ) fun a => M.bind (fx ρ) fun b => M.bind (M.opt (op a b)) fun d => M.pure (.nx (ρ.set i (.val d)))
theorem S_aug {i : Nat} {y : Str} {f : Int → Int → Int} {fx : EX} {op : Operator} {pos' pos : Pos} (hN : X.N.Nodup) (hi : X.N[i]? = some y) (hx : Loc X.env.scope y) (he : PD X W e fx) (ho : PIp X op (ipI f)) (hf : X.fn y = true ∨ X.env.scope.names.lookup y = some .local := by first | exact .inl rfl | exact .inr rfl | assumption) :
    PDS X W (.AugAssign (.Name y pos') op e pos) (sAug i (dI (fun _ _ => true) fun a b => .int (f a b)) fx) := imp_S (ps_aug hN hi hx he ho hf) fun E σ H ⟨fr, F, ρ, n, r, n', R, e, k⟩ => by
  rcases r with z | o
  · rcases M.bind_err e with h | ⟨a, n1, e1, h1⟩
    · exact (M.opt_err h).elim
    obtain ⟨e8, e9⟩ := eVar_some e1
    subst e9
    obtain ⟨ad, s⟩ := R.slots
    obtain ⟨v, q1, q2⟩ := s.val i a e8
    refine ⟨v, q1, R.dE h1 (KS.x k) fun _ _ _ _ _ _ h _ _ _ => ?_⟩
    rcases M.bind_err h with h | ⟨_, _, _, h⟩
    · exact (M.opt_err h).elim
    · exact (M.pure_err h).elim
  obtain ⟨a, n1, e1, h1⟩ := M.bind_ok e
  obtain ⟨b, n2, e2, h2⟩ := M.bind_ok h1
  obtain ⟨d, n3, e3, h3⟩ := M.bind_ok h2
  obtain ⟨e4, e5⟩ := M.opt_ok e3
  obtain ⟨e6, e7⟩ := M.pure_ok h3
  obtain ⟨e8, e9⟩ := eVar_some e1
  clear e h1 h2 h3 e3
  subst e9 e6
  subst e7
  subst e5
  obtain ⟨ad, s⟩ := R.slots
  obtain ⟨v, q1, q2⟩ := s.val i a e8
  refine ⟨v, q1, fr, F, ρ, _, .ok b, _, R, e2, fun F1 H1 u R1 s1 d1 => ?_⟩
  unfold dI at e4
  split at e4
  · simp only [if_true] at e4
    cases e4; cases q2; cases d1
    exact ⟨_, _, rfl, rfl, k F1 H1 _ (R1.set (.int _)) s1⟩
  · cases e4

/-! ### the draws -/
/-- the law's script, by its place in the draw -/
def eDrw0 (fx : EX) : EX := fun ρ => M.bind (fx ρ) fun d => match d with
  | .drw => M.pure .scr
  | _ => M.opt none
def eDrw1 (fx : EX) : EX := fun ρ => M.bind (fx ρ) fun d => match d with
  | .drw => fun n => some (.ok (.int n), n)
  | _ => M.opt none
theorem d_drw0 {a : Expr} {fa : EX} {p2 pos : Pos} {jj : Nat} (ha : PD X W a fa) : PD X W (.Subscript a (.Constant (.int 0) jj p2) pos) (eDrw0 fa) := imp_E (pe_ix ix_list ha pe_int (fun _ _ => rfl)) fun σ H Q ⟨fr, F, ρ, n, r, n', R, e, k⟩ => by
  rcases r with z | d
  · refine R.dE e k fun _ _ _ _ _ _ h _ _ _ => ?_
    split at h
    · exact (M.pure_err h).elim
    · exact (M.opt_err h).elim
  obtain ⟨x, n1, e1, h1⟩ := M.bind_ok e
  refine ⟨fr, F, ρ, n, .ok x, n1, R, e1, fun F1 H1 v R1 s1 d1 => ?_⟩
  split at h1
  · obtain ⟨b1, b2⟩ := M.pure_ok h1
    subst b1 b2
    cases d1 with
    | drw q =>
      obtain ⟨q1, q2, q3⟩ := R1.core.draw _ q
      exact ⟨_, _, 0, .ref fr.sa, rfl, rfl, SqL.of q2, rfl, k F1 H1 _ R1 s1 (.scr q3)⟩
  · cases (M.opt_ok h1).1
theorem d_drw1 {a : Expr} {fa : EX} {p2 pos : Pos} {jj : Nat} (ha : PD X W a fa) : PD X W (.Subscript a (.Constant (.int 1) jj p2) pos) (eDrw1 fa) := imp_E (pe_ix ix_list ha pe_int (fun _ _ => rfl)) fun σ H Q ⟨fr, F, ρ, n, r, n', R, e, k⟩ => by
  rcases r with z | d
  · refine R.dE e k fun _ _ _ _ _ _ h _ _ _ => ?_
    split at h
    · cases h
    · exact (M.opt_err h).elim
  obtain ⟨x, n1, e1, h1⟩ := M.bind_ok e
  refine ⟨fr, F, ρ, n, .ok x, n1, R, e1, fun F1 H1 v R1 s1 d1 => ?_⟩
  split at h1
  · cases h1
    cases d1 with
    | drw q =>
      obtain ⟨q1, q2, q3⟩ := R1.core.draw _ q
      exact ⟨_, _, 1, .int _, rfl, rfl, SqL.of q2, rfl, k F1 H1 _ R1 s1 (.int _)⟩
  · cases (M.opt_ok h1).1
def isDrw : D → Bool | .drw => true | _ => false
/-- draw[1] += 1 -/
def sDrw (fx : EX) : SX := fun ρ => M.bind (fx ρ) fun d => if isDrw d then fun n => some (.ok (.nx ρ), n + 1) else M.opt none
def rGetL (K : PySem.W.Frag) : V → V → Hp → VK → Prop := fun x y H Q => ∃ p xs j v, x = .ref p ∧ y = .int ((j : Nat) : Int) ∧ SqL K H p xs ∧ xs[j]? = some v ∧ Q v H
theorem get_list : PGet X (rGetL X.K) := by
  intro pins s σ H x y v u Q I rx ry h
  obtain ⟨p, xs, j, z, rfl, rfl, hq, he, q⟩ := h
  cases rx
  obtain ⟨t, rfl⟩ := ry
  obtain ⟨its, r, pl, hz⟩ := I.list hq
  obtain ⟨w, ew, rw'⟩ := r.get he
  have hl := r.length
  have hn := line63
  have hj : j < its.length := (List.getElem?_eq_some_iff.mp ew).1
  exact wpAny_getItem_list pl.isList (by omega) (by omega) (by simpa using ew) ⟨z, H, I, rw', q⟩
theorem Rel.drawn {K : PySem.W.Frag} {fr : Fr} {F H : Hp} {σ : St} {ρ : Env} {n m : Int} {a : Addr} (r : Rel K W fr F H σ ρ n) (q : fr.dr = some a) : Rel K W fr F (upd H a (.lst [.ref fr.sa, .int m])) σ ρ m := by
  have c := r.core
  obtain ⟨ad, s⟩ := r.slots
  obtain ⟨q1, q2, q3⟩ := c.draw _ q
  refine ⟨⟨fun b u z => ?_, fun b u z z2 z3 => ?_, c.f0, c.new, fun b u z => ?_, fun b z => ?_, c.ntF, ?_⟩, ad, s.len, s.val, fun i d z => ?_, s.inj⟩
  · rw [upd_ne (ne_of_none z q1)]; exact c.sub _ _ z
  · rw [upd_ne (fun e => z2 (by rw [e]; exact q))]; exact c.base b u z z2 z3
  · by_cases e : b = a
    · rw [e]; exact ⟨_, upd_same, fun _ z => by cases z⟩
    · obtain ⟨o', z', nt⟩ := c.there b u z
      exact ⟨o', by rw [upd_ne e]; exact z', nt⟩
  · rw [q] at z
    cases z
    exact ⟨q1, upd_same, q3⟩
  · refine tabs_keep c.tabs fun b u z sd => ?_
    have ne : b ≠ a := fun e => by subst e; exact (sd_of q2) _ z sd
    rw [upd_ne ne]; exact z
  · obtain ⟨z1, z2, z3, z4, z5, z6⟩ := s.own i d z
    exact ⟨z1, z2, z3, z4, z5.mono (Sub.refl _) (fun u e => by rw [upd_ne (fun e' => z3 (by rw [e']; exact q))]; exact e), z6⟩
theorem S_drw {a : Expr} {fa : EX} {p2 p3 p4 pos : Pos} {jj kk : Nat} (ha : PD X W a fa) : PDS X W (.AugAssign (.Subscript a (.Constant (.int 1) jj p2) p4) .Add (.Constant (.int 1) kk p3) pos) (sDrw fa) := imp_S (ps_augS ha pe_int get_list pe_int ip_add set_list) fun E σ H ⟨fr, F, ρ, n, r, n', R, e, k⟩ => by
  rcases r with z | o
  · refine R.dE e (KS.x k) fun _ _ _ _ _ _ h _ _ _ => ?_
    split at h
    · cases h
    · exact (M.opt_err h).elim
  obtain ⟨x, n1, e1, h1⟩ := M.bind_ok e
  refine ⟨fr, F, ρ, n, .ok x, n1, R, e1, fun F1 H1 v R1 s1 d1 => ?_⟩
  split at h1
  · rename_i hx
    cases h1
    unfold isDrw at hx
    split at hx
    · cases d1 with
      | drw q =>
        obtain ⟨q1, q2, q3⟩ := R1.core.draw _ q
        exact ⟨_, _, 1, _, rfl, rfl, SqL.of q2, rfl, _, _, rfl, rfl, _, _, _, 1, rfl, rfl, q2, rfl, k F1 _ σ (R1.drawn q) s1⟩
    · cases hx
  · cases (M.opt_ok h1).1
/-- the script: is it empty, its length, its items -/
def dScrNil (W : Wd) : D → D → Option D
  | .scr, .lst [] => some (.bl W.ns.isEmpty)
  | _, _ => none
def intsPy (ns : List Int) : List PyData := ns.map PyData.int
theorem dpAll_ints {K : PySem.W.Frag} {H : Hp} : ∀ ns : List Int, DpAll K H (ns.map V.int) (intsPy ns)
  | [] => .nil
  | i :: r => .cons (.int i) (dpAll_ints r)
theorem canLay_ints : ∀ ns : List Int, PyData.canLayAll0 (intsPy ns) = true
  | [] => by unfold intsPy; rfl
  | i :: r => by
    have := canLay_ints r
    unfold intsPy at this ⊢
    rw [List.map_cons]
    unfold PyData.canLayAll0
    rw [this]; unfold PyData.canLay0; rfl
theorem depth_ints : ∀ ns : List Int, PyData.depthAll (intsPy ns) = 0
  | [] => by unfold intsPy; rfl
  | i :: r => by
    have := depth_ints r
    unfold intsPy at this ⊢
    rw [List.map_cons]
    unfold PyData.depthAll
    rw [this]; unfold PyData.depth; rfl
theorem shaped_ints (ns : List Int) : SeqAt.shaped (.list (intsPy ns)) = true := by
  unfold SeqAt.shaped
  unfold PyData.canLay0 PyData.depth
  rw [canLay_ints, depth_ints]; rfl
theorem d_scrNil {a b : Expr} {fa fb : EX} {pos : Pos} (hu : X.A.units + 64 < cLine) (ha : PD X W a fa) (hb : PD X W b fb) : PD X W (.Compare a [.Eq] [b] pos) (e2 (dScrNil W) fa fb) := d_cmp (op_eqD hu) (by
  intro fr F H σ ρ n x y d v u Q R dx dy h k
  unfold dScrNil at h
  split at h
  · cases h
    cases dx with
    | scr h1 =>
      cases dy with
      | lst h2 h3 =>
        cases h3
        refine ⟨.list (intsPy W.ns), .list [], .lst (R.core.sub.sqL h1) (dpAll_ints _), .lst (SqL.of (R.core.sub _ _ h2)) .nil, shaped_ints _, by decide, ?_⟩
        have : PyData.eqv (.list (intsPy W.ns)) (.list []) = W.ns.isEmpty := by
          unfold PyData.eqv
          cases e : W.ns with
          | nil => rfl
          | cons i r => rfl
        rw [this]
        exact k F H _ R (Sub.refl _) (.bl _)
  · cases h) ha hb (nomark _)
def dLenS (W : Wd) : List D → Option D
  | [.scr] => some (.int W.ns.length)
  | _ => none
theorem q_lenS {K : PySem.W.Frag} : CallD K W (fun xs H Q => ∃ x n, xs = [x] ∧ LenV K x H n ∧ Q (.int n) H) (dLenS W) := by
  intro fr F H σ ρ n xs d vs Q R dx h k
  unfold dLenS at h
  split at h
  · cases h
    cases dx with
    | cons h1 h2 =>
      cases h2
      cases h1 with
      | scr h3 => exact ⟨_, W.ns.length, rfl, .inl ⟨_, R.core.sub.sqL h3, by simp⟩, k F H _ R (Sub.refl _) (.int _)⟩
  · cases h
def dIxS (W : Wd) : D → D → Option D
  | .scr, .int i => (atI W.ns i).map D.int
  | _, _ => none
theorem atI_map {α β : Type} (f : α → β) (xs : List α) (i : Int) : atI (xs.map f) i = (atI xs i).map f := by
  unfold atI
  rw [List.length_map]
  cases ixN xs.length i with
  | none => rfl
  | some j => simp
theorem d_ixS {a b : Expr} {fa fb : EX} {pos : Pos} (ha : PD X W a fa) (hb : PD X W b fb) (hs : PlainIx b := by exact fun _ _ => rfl) : PD X W (.Subscript a b pos) (e2 (dIxS W) fa fb) := imp_E (pe_ix ix_list ha hb hs) fun σ H Q h => d_tOp (by
  intro fr F H σ ρ n x y d v u Q R dx dy h k
  unfold dIxS at h
  split at h
  · cases dx with
    | scr h1 =>
      cases dy
      rename_i i _
      cases e : atI W.ns i with
      | none => rw [e] at h; cases h
      | some z =>
        rw [e] at h
        cases h
        exact ⟨_, _, _, .int z, rfl, rfl, R.core.sub.sqL h1, by rw [atI_map, e]; rfl, k F H _ R (Sub.refl _) (.int _)⟩
  · cases h) h

end

/-! ### the law -/
def spLaw (K : PySem.W.Frag) (T : List (Addr × Str)) : Sp := fun vs H Q _ => ∃ (a : Addr) (ns : List Int), vs = [.ref a] ∧ SqL K H a (ns.map V.int) ∧ ns.length ≤ 63 ∧ LamX.Tabs T H ∧ ∀ H', Q (.bl true) H'
/-- the law's first statement is «draw = [script, 0]» -/
theorem okLaw {P : Program} {w : World} {K : PySem.W.Frag} {mg : Str → Option Value} {base : Heap} {x qual : Str} {st : Stmt} {f : Addr} {fd : FuncData} {N : List Str} {k : Nat} {y z : Str} {px py pl p0 pa : Pos} {jj : Nat} {rest : List Stmt} {cl : Nat → Addr} {T : List (Addr × Str)} (g : Wd → SX)
    (F : Fun K x qual st f fd) (S : FnScope N [y] (defScope st)) (hbody : defBody st = .Assign [.Name z px] (.List [.Name y py, .Constant (.int 0) jj p0] pl) pa :: rest)
    (first : ∀ (cdv : Value) (A : Around) (outer : List PySem.Env) (s : Shared) (H : Hp) (E : XK), PS (cxOf (L2.CX P w) P w K mg base N qual (defScope st) f cdv A outer s H E) (.Assign [.Name z px] (.List [.Name y py, .Constant (.int 0) jj p0] pl) pa) (tAsg (tLst (tCons (tVar 0) (tCons (tC (.int 0)) tNil))) (gName 1)))
    (body : ∀ (W : Wd), W.cl = cl → W.tb = T → ∀ (cdv : Value), Cdv fd cdv → ∀ (A : Around) (outer : List PySem.Env) (s : Shared) (H : Hp) (E : XK), Room k (A.deeper (envOfC qual (defScope st) s.heap.objs.size f cdv)) → PDSs (cxOf (L2.CX P w) P w K mg base N qual (defScope st) f cdv A outer s H E) W rest (g W))
    (good : ∀ W : Wd, W.ns.length ≤ 63 → W.cl = cl → ∃ n', g W (.val .scr :: .val .drw :: List.replicate (N.length - 2) Sl.no) 0 = some (.ok (.ret (.bl true)), n')) (hN : 2 ≤ N.length) :
    FnOk P w K mg base (L2.CX P w) (k + 1) f fd [y] (spLaw K T) := by
  refine fn_okXc F S (fun vs H Q E h => ?_) fun cdv hcd A outer s H vs Q E hr h => ?_
  · obtain ⟨a, ns, rfl, _⟩ := h
    rfl
  · obtain ⟨a, ns, rfl, hS, hl, hT, hk⟩ := h
    rw [hbody]
    refine ⟨_, pss_cons (first cdv A outer s H E) (body ⟨cl, ns, T⟩ rfl rfl cdv hcd A outer s H E hr), ?_⟩
    refine ⟨_, rfl, (by show 2 ≤ sizeLine; decide), fun p hp => ?_⟩
    obtain ⟨n', e⟩ := good ⟨cl, ns, T⟩ hl rfl
    have hne : p ≠ a ∨ ∃ o, K.lookup a = some o := by
      rcases hS with (h | ⟨o, h⟩) | ⟨o, _, _, h, _⟩
      · exact .inl fun e => by rw [e, h] at hp; cases hp
      · exact .inl fun e => by rw [e, h] at hp; cases hp
      · exact .inr ⟨o, h⟩
    let F0 : Hp := fun b => if b = p then none else if b = a then mask H a else none
    have fa : ∀ u, F0 a = some u → H a = some u := fun u q => by
      by_cases e : a = p
      · simp [F0, e] at q
      · have q : mask H a = some u := by simpa [F0, e] using q
        exact (of_mask q).1
    have hF : SqL K F0 a (ns.map V.int) := by
      rcases hS with (h | ⟨o, h⟩) | h
      · have : a ≠ p := fun e => by rw [← e, h] at hp; cases hp
        exact .inl (.inl (by simp only [F0, if_neg this, if_true]; exact mask_of h))
      · have : a ≠ p := fun e => by rw [← e, h] at hp; cases hp
        exact .inl (.inr ⟨o, by simp only [F0, if_neg this, if_true]; exact mask_of h⟩)
      · exact .inr h
    have hsub : Sub F0 (upd H p (.lst [.ref a, .int 0])) := fun b u q => by
      by_cases e : b = p
      · simp [F0, e] at q
      · by_cases e2 : b = a
        · subst e2
          rw [upd_ne e]; exact fa u q
        · simp [F0, e, e2] at q
    have nt0 : ∀ b u, F0 b = some u → NT u := fun b u q => by
      by_cases e : b = p
      · simp [F0, e] at q
      · by_cases e2 : b = a
        · subst e2
          have q : mask H b = some u := by simpa [F0, e] using q
          exact (of_mask q).2
        · simp [F0, e, e2] at q
    have c : Core K ⟨cl, ns, T⟩ ⟨some p, a, mask (upd H p (.lst [.ref a, .int 0])), F0, fun _ => False⟩ F0 (upd H p (.lst [.ref a, .int 0])) 0 :=
      ⟨hsub, fun _ _ h _ _ => (of_mask h).1, Sub.refl _, fun _ _ _ h => h, fun _ o h => ⟨o, of_mask h⟩, fun b q => by
        cases q
        exact ⟨by simp [F0], upd_same, hF⟩, nt0, tabs_keep hT fun b u q _ => by rw [upd_ne (ne_of_none q hp)]; exact q⟩
    refine ⟨_, F0, _, 0, _, n', ⟨c, fun _ => 0, ?_, fun i d q => ?_, fun i d q => ?_, fun i j d d' q _ => ?_⟩, e, fun F' H' v c' s' d' => ?_⟩
    · unfold L2.start
      simp
      omega
    · cases i with
      | zero =>
        cases q
        refine ⟨.ref a, ?_, .scr hF⟩
        show (List.set _ 1 _)[0]? = _
        rw [List.getElem?_set_ne (by decide)]; rfl
      | succ i =>
        cases i with
        | zero =>
          cases q
          refine ⟨.ref p, ?_, .drw rfl⟩
          rw [get_set_self (by unfold L2.start; simp; omega)]
        | succ i =>
          have := List.mem_of_getElem? (show (List.replicate (N.length - 2) Sl.no)[i]? = some (Sl.val d) from q)
          rw [List.mem_replicate] at this
          cases this.2
    · cases i with
      | zero => cases q
      | succ i =>
        cases i with
        | zero => cases q
        | succ i =>
          have := List.mem_of_getElem? (show (List.replicate (N.length - 2) Sl.no)[i]? = some (Sl.own d) from q)
          rw [List.mem_replicate] at this
          cases this.2
    · cases i with
      | zero => cases q
      | succ i =>
        cases i with
        | zero => cases q
        | succ i =>
          have := List.mem_of_getElem? (show (List.replicate (N.length - 2) Sl.no)[i]? = some (Sl.own d) from q)
          rw [List.mem_replicate] at this
          cases this.2
    · cases d'
      exact hk H'
theorem law_walk {l : PySem.W.OpenLaw} {q : Program} {loose : List Str} {XP : (Str → Option Value) → Heap → Prop} {YP : World → Heap → Prop} {d : DefRec} {K : Params → PySem.W.Frag} {k : Nat} {x : Str} (hn : l.most = some 63) (hdf : d.params.defaults = []) (hr : Room k callerA)
    (hY : ∀ (w : World) (h : Heap), YP w h → (K w.params).In h)
    (F : ∀ (w : World) (mg : Str → Option Value) (fa : Addr) (h : Heap), (K w.params).In h → h.Ns mainGlobals mg → mg d.name = some (.ref fa) →
      ∃ fd : FuncData, (∀ (s : Shared) (u : Value), BindsTo s fd ⟨[u], []⟩ [(x, u)]) ∧ ∀ base : Heap, (K w.params).In base → base.Ns mainGlobals mg → FnOk l.prog w (K w.params) mg base (L2.CX l.prog w) k fa fd [x] (spLaw (K w.params) [])) :
    PySem.W.WalkO q loose XP YP l.row.toRowW d [] (fun f vs => PySem.call f vs) :=
  L2.walk_of (n := 63) (k := k) (x := x) (CX := fun w => L2.CX l.prog w) (sp := fun w => spLaw (K w.params) []) hn (by decide) hdf hr hY F (fun _ _ a ns hl _ hS => ⟨a, ns, rfl, hS, hl, (fun _ hp => absurd hp List.not_mem_nil), fun _ => rfl⟩) fun _ _ _ _ _ ⟨_, _, _, _, _, _, _, _, _, _, _, _, z⟩ => z
end DL
end

section
set_option Elab.async false
set_option linter.all false
set_option autoImplicit false
set_option maxRecDepth 100000
set_option maxHeartbeats 1000000
namespace DL
open PySem PySem.Spec L2
/-! ### callees, bundled -/
def Cal (P : Program) (w : World) (K : PySem.W.Frag) (mg : Str → Option Value) (base : Heap) (x : Str) (k : Nat) (sp : Sp) : Prop :=
  ∃ f fd ps, FnOk P w K mg base (L2.CX P w) k f fd ps sp ∧ mg x = some (.ref f) ∧ PySem.W.keepIn K (.ref f) = true ∧ Binds K fd ps []
def CalM (P : Program) (w : World) (K : PySem.W.Frag) (mg : Str → Option Value) (base : Heap) (C : Addr) (m : Str) (k : Nat) (sp : Sp) : Prop :=
  ∃ f fd ps, FnOk P w K mg base (L2.CX P w) k f fd ps sp ∧ Meth K C m f ∧ Binds K fd ps []
def CalI (P : Program) (w : World) (K : PySem.W.Frag) (mg : Str → Option Value) (base : Heap) (C : Addr) (x : Str) (k : Nat) (sp : Sp) : Prop :=
  ∃ f fd ps, FnOk P w K mg base (L2.CX P w) k f fd ps sp ∧ Mk K C f ∧ mg x = some (.ref C) ∧ Binds K fd ps []
section
variable {X : Cx} {W : Wd} {k : Nat} {x m : Str} {p pos apos : Pos} {e o : Expr} {es : List Expr} {fx : FX} {fo : EX} {fs : EXs} {mm c : Nat} {pl : Sem Bool}
theorem c_call (F : Cal X.prog X.w X.K X.mg X.base x k (spD X.K W fx mm)) (hr : Room k X.A) (hg : Gl X x)
    (ha : PDs X W (e :: es) fs) (hl : ∀ ρ n ds n', fs ρ n = some (.ok ds, n') → ds.length = mm) (hdb : (x == ("__debug__" : Str)) = false := by decide) (he : starEach (e :: es) X.env = (false, eval e X.env) :: starEach es X.env := by rfl) (hpl : (backTo pos (starEach es X.env)).any (·.1) = false := by rfl) :
    PD X W (.Call (.Name x p) (e :: es) [] pos) (eCall fx fs) := by
  obtain ⟨f, fd, ps, h1, h2, h3, h4⟩ := F
  exact d_call h1 hr hg h2 h3 h4 ha hl hdb he hpl
theorem c_call0 (F : Cal X.prog X.w X.K X.mg X.base x k (spD X.K W fx 0)) (hr : Room k X.A) (hg : Gl X x) (hdb : (x == ("__debug__" : Str)) = false := by decide) :
    PD X W (.Call (.Name x p) [] [] pos) (eCall fx eNil) := by
  obtain ⟨f, fd, ps, h1, h2, h3, h4⟩ := F
  exact d_call0 h1 hr hg h2 h3 h4 hdb
theorem c_meth (F : CalM X.prog X.w X.K X.mg X.base (W.cl c) m k (spD X.K W fx (mm + 1))) (hr : Room k X.A) (cl : Cls X.K (W.cl c)) (ho : PD X W o fo) (ha : PDs X W (e :: es) fs) (hl : ∀ ρ n ds n', fs ρ n = some (.ok ds, n') → ds.length = mm)
    (hst : starEach (e :: es) X.env = (false, eval e X.env) :: starEach es X.env := by rfl) (hpl : (backTo pos (starEach es X.env)).any (·.1) = false := by rfl)
    (ht : eval (.Call (.Attribute o m apos) (e :: es) [] pos) X.env = (do
      let ov ← eval o X.env
      standAt apos.atName
      let (f, first) ← holding [ov] (getMethod ov m pl)
      callWith pos f first (backTo pos (starEach (e :: es) X.env)) (backToKw pos (keywordEach [] X.env))) := by rfl) :
    PD X W (.Call (.Attribute o m apos) (e :: es) [] pos) (eMeth c m fx fo fs) := by
  obtain ⟨f, fd, ps, h1, h2, h4⟩ := F
  exact d_meth ho cl h2 h1 hr h4 ha hl hst hpl ht
theorem c_meth0 (F : CalM X.prog X.w X.K X.mg X.base (W.cl c) m k (spD X.K W fx 1)) (hr : Room k X.A) (cl : Cls X.K (W.cl c)) (ho : PD X W o fo)
    (ht : eval (.Call (.Attribute o m apos) [] [] pos) X.env = (do
      let ov ← eval o X.env
      standAt apos.atName
      let (f, first) ← holding [ov] (getMethod ov m pl)
      callWith pos f first (backTo pos (starEach [] X.env)) (backToKw pos (keywordEach [] X.env))) := by rfl) :
    PD X W (.Call (.Attribute o m apos) [] [] pos) (eMeth c m fx fo eNil) := by
  obtain ⟨f, fd, ps, h1, h2, h4⟩ := F
  exact d_meth0 ho cl h2 h1 hr h4 ht
theorem c_make (F : CalI X.prog X.w X.K X.mg X.base (W.cl c) x k (spI X.K W fx c mm)) (hr : Room (k + 1) X.A) (hg : Gl X x)
    (ha : PDs X W (e :: es) fs) (hl : ∀ ρ n ds n', fs ρ n = some (.ok ds, n') → ds.length = mm) (hdb : (x == ("__debug__" : Str)) = false := by decide) (he : starEach (e :: es) X.env = (false, eval e X.env) :: starEach es X.env := by rfl) (hpl : (backTo pos (starEach es X.env)).any (·.1) = false := by rfl) :
    PD X W (.Call (.Name x p) (e :: es) [] pos) (eMake c fx fs) := by
  obtain ⟨f, fd, ps, h1, h2, h3, h4⟩ := F
  exact d_make h2 h1 hr hg h3 h4 ha hl hdb he hpl
/-! ### comparisons as tests -/
variable {a b : Expr} {fa fb : EX} {j : Nat} {q : Pos}
theorem t_of {o : CmpOp} {r : R2} {op : D → D → Option D} (ho : OpR X (compareOp o) r) (hd : Op2 X.K W r op) (ha : PD X W a fa) (hb : PD X W b fb) (hm : behindInMarks o b = false) : PDT X W (.Compare a [o] [b] pos) (tB (e2 op fa fb)) := t_cmp ho hd ha hb hm
theorem q_lt {K : PySem.W.Frag} : Op2 K W (fun x y H Q => (rI0 fun i j => .bl (decide (i < j))) x y H Q ∨ (∃ i j, x = .str i ∧ y = .str j ∧ Q (.bl (decide (i.cps.toList < j.cps.toList))) H)) dLt := by
  intro fr F H σ ρ n x y d v u Q R dx dy h k
  unfold dLt at h
  split at h
  · cases dx; cases dy; cases h
    exact .inl ⟨_, _, rfl, rfl, k F H _ R (Sub.refl _) (.bl _)⟩
  · cases dx; cases dy; cases h
    exact .inr ⟨_, _, rfl, rfl, k F H _ R (Sub.refl _) (.bl _)⟩
  · cases h
theorem q_eq {K : PySem.W.Frag} : Op2 K W (rEqD K) dEq := by
  intro fr F H σ ρ n x y d v u Q R dx dy h k
  unfold dEq at h
  split at h
  · cases h
    obtain ⟨p, q, h1, h2, h3, h4, rfl⟩ := dEqB_ok ‹_›
    exact ⟨p, q, dp_of R.core.sub dx h1, dp_of R.core.sub dy h2, h3, h4, k F H _ R (Sub.refl _) (.bl _)⟩
  · cases h
theorem q_ne {K : PySem.W.Frag} : Op2 K W (rNeD K) dNe := by
  intro fr F H σ ρ n x y d v u Q R dx dy h k
  unfold dNe at h
  split at h
  · cases h
    obtain ⟨p, q, h1, h2, h3, h4, rfl⟩ := dEqB_ok ‹_›
    exact ⟨p, q, dp_of R.core.sub dx h1, dp_of R.core.sub dy h2, h3, h4, k F H _ R (Sub.refl _) (.bl _)⟩
  · cases h
theorem q_scrNil {K : PySem.W.Frag} : Op2 K W (rEqD K) (dScrNil W) := by
  intro fr F H σ ρ n x y d v u Q R dx dy h k
  unfold dScrNil at h
  split at h
  · cases h
    cases dx with
    | scr h1 =>
      cases dy with
      | lst h2 h3 =>
        cases h3
        refine ⟨.list (intsPy W.ns), .list [], .lst (R.core.sub.sqL h1) (dpAll_ints _), .lst (SqL.of (R.core.sub _ _ h2)) .nil, shaped_ints _, by decide, ?_⟩
        have : PyData.eqv (.list (intsPy W.ns)) (.list []) = W.ns.isEmpty := by
          unfold PyData.eqv
          cases e : W.ns with
          | nil => rfl
          | cons i r => rfl
        rw [this]
        exact k F H _ R (Sub.refl _) (.bl _)
  · cases h
theorem q_CI {K : PySem.W.Frag} (p : Int → Int → Bool) : Op2 K W (rI0 fun i j => .bl (p i j)) (dCI p) := q_I0 fun _ _ _ _ _ _ => .bl _
theorem t_lt (ha : PD X W a fa) (hb : PD X W b fb) : PDT X W (.Compare a [.Lt] [b] pos) (tB (e2 dLt fa fb)) := t_cmp (op_lt.or op_lt_str) q_lt ha hb (nomark _)
theorem t_le (ha : PD X W a fa) (hb : PD X W b fb) : PDT X W (.Compare a [.LtE] [b] pos) (tB (e2 dLe fa fb)) := t_cmp op_le (q_CI _) ha hb (nomark _)
theorem t_gt (ha : PD X W a fa) (hb : PD X W b fb) : PDT X W (.Compare a [.Gt] [b] pos) (tB (e2 dGt fa fb)) := t_cmp op_gt (q_CI _) ha hb (nomark _)
theorem t_ge (ha : PD X W a fa) (hb : PD X W b fb) : PDT X W (.Compare a [.GtE] [b] pos) (tB (e2 dGe fa fb)) := t_cmp op_ge (q_CI _) ha hb (nomark _)
theorem t_eq (hu : X.A.units + 64 < cLine) (ha : PD X W a fa) (hb : PD X W b fb) : PDT X W (.Compare a [.Eq] [b] pos) (tB (e2 dEq fa fb)) := t_cmp (op_eqD hu) q_eq ha hb (nomark _)
theorem t_ne (hu : X.A.units + 64 < cLine) (ha : PD X W a fa) (hb : PD X W b fb) : PDT X W (.Compare a [.NotEq] [b] pos) (tB (e2 dNe fa fb)) := t_cmp (op_neD hu) q_ne ha hb (nomark _)
theorem t_scrNil (hu : X.A.units + 64 < cLine) (ha : PD X W a fa) (hb : PD X W b fb) : PDT X W (.Compare a [.Eq] [b] pos) (tB (e2 (dScrNil W) fa fb)) := t_cmp (op_eqD hu) q_scrNil ha hb (nomark _)
theorem t_isN (ha : PD X W a fa) : PDT X W (.Compare a [.Is] [.Constant .none j q] pos) (tB (e1 (fun d => some (.bl (isNon d))) fa)) := imp_T (pt_cmp (pc_isN ha) rfl) fun σ H Q ⟨fr, F, ρ, n, r, n', R, e, k⟩ => by
  rcases r with z | b
  · refine R.dE (g := fun x => M.opt (some (D.bl (isNon x)))) ?_ k fun _ _ _ _ _ _ h _ _ _ => (M.opt_err h).elim
    rcases M.bind_err e with h | ⟨_, _, _, h⟩
    · exact h
    · exact (M.opt_err h).elim
  obtain ⟨x, n1, h1, h⟩ := M.bind_ok e
  obtain ⟨y, n2, h3, h4⟩ := M.bind_ok h1
  obtain ⟨h5, h6⟩ := M.opt_ok h4
  obtain ⟨h7, h8⟩ := M.opt_ok h
  subst h6
  cases h5
  cases h7
  subst h8
  exact ⟨fr, F, ρ, n, .ok y, _, R, h3, fun F1 H1 v R1 s1 d1 => ⟨_, rfl, by rw [isNon_of d1]; exact k F1 H1 R1 s1⟩⟩
theorem t_notN (ha : PD X W a fa) : PDT X W (.Compare a [.IsNot] [.Constant .none j q] pos) (tB (e1 (fun d => some (.bl (!isNon d))) fa)) := imp_T (pt_cmp (pc_notN ha) rfl) fun σ H Q ⟨fr, F, ρ, n, r, n', R, e, k⟩ => by
  rcases r with z | b
  · refine R.dE (g := fun x => M.opt (some (D.bl (!isNon x)))) ?_ k fun _ _ _ _ _ _ h _ _ _ => (M.opt_err h).elim
    rcases M.bind_err e with h | ⟨_, _, _, h⟩
    · exact h
    · exact (M.opt_err h).elim
  obtain ⟨x, n1, h1, h⟩ := M.bind_ok e
  obtain ⟨y, n2, h3, h4⟩ := M.bind_ok h1
  obtain ⟨h5, h6⟩ := M.opt_ok h4
  obtain ⟨h7, h8⟩ := M.opt_ok h
  subst h6
  cases h5
  cases h7
  subst h8
  exact ⟨fr, F, ρ, n, .ok y, _, R, h3, fun F1 H1 v R1 s1 d1 => ⟨_, rfl, by rw [isNon_of d1]; exact k F1 H1 R1 s1⟩⟩
end
end DL
end

section
set_option Elab.async false
set_option linter.all false
set_option autoImplicit false
set_option maxRecDepth 100000
namespace DL
open PySem PySem.Spec L2
/-! ### isinstance -/
def tyN : D → Option String
  | .non => some "NoneType"
  | .bl _ => some "bool"
  | .int _ => some "int"
  | .str _ => some "str"
  | .tup _ => some "tuple"
  | .lst _ => some "list"
  | .dic _ _ => some "dict"
  | _ => none
theorem ty_of {K : PySem.W.Frag} {W : Wd} {dr : Option Addr} {F H : Hp} (s : Sub F H) {v : V} {d : D} {T : String} (h : Den K W dr F v d) (e : tyN d = some T) : TyX K H v (.type T) := by
  cases h with
  | non => cases e; exact .base .non
  | bl b => cases e; exact .base (.bl b)
  | int b => cases e; exact .base (.int b)
  | str b => cases e; exact .base (.str b)
  | tup h1 h2 =>
    cases e
    rcases s.sqT h1 with h | ⟨o, its, n, hk, hc, _⟩
    · rcases h with h | ⟨o, h⟩
      · exact .base (.tup h)
      · exact .fTuple h
    · exact .kTuple hk hc
  | lst h1 h2 => cases e; exact .base (.lst (s _ _ h1))
  | scr h1 => cases e
  | dic h0 h1 h2 =>
    cases e
    rcases s.rd h1 with h | ⟨o, h⟩
    · exact .base (.dK h)
    · exact .fDict h
  | dit h0 h1 h2 => cases e
  | obj => cases e
  | drw => cases e
def dIsi (T : String) (d : D) : Option D := match tyN d with
  | some t => (match kitB t T with | some b => some (.bl b) | none => none)
  | none => none
section
variable {X : Cx} {W : Wd} {x : Str} {p tp pos : Pos} {e : Expr} {f : EX}
theorem d_isi {T : String} {Tn : Str} (hg : Gl X "isinstance") (hm : X.mg "isinstance" = none) (hgT : Gl X Tn) (hmT : X.mg Tn = none) (hvT : bootBuiltins Tn = some (.type T)) (ha : PD X W e f) (hn : Tn ≠ "__name__" := by decide) (hd : (Tn == ("__debug__" : Str)) = false := by decide)
    (he : starEach [e, .Name Tn tp] X.env = (false, eval e X.env) :: starEach [.Name Tn tp] X.env := by rfl) (he2 : starEach [.Name Tn tp] X.env = (false, eval (.Name Tn tp) X.env) :: starEach [] X.env := by rfl) (hpl : (backTo pos (starEach [.Name Tn tp] X.env)).any (·.1) = false := by rfl) :
    PD X W (.Call (.Name "isinstance" p) [e, .Name Tn tp] [] pos) (e1 (dIsi T) f) :=
  imp_E (pe_callB call_isi hg hm rfl (pa_cons ha (pa_cons (pe_bltn (v := .ty T) hgT hmT hvT rfl hn hd) pa_nil he2) he) (by decide) (by decide) he hpl) fun σ H Q ⟨fr, F, ρ, n, r, n', R, ev, k⟩ => by
    rcases r with z | d
    · exact R.dE1 ev k
    obtain ⟨y, n1, h1, h2⟩ := M.bind_ok ev
    obtain ⟨h3, h4⟩ := M.opt_ok h2
    subst h4
    unfold dIsi at h3
    split at h3
    · split at h3
      · cases h3
        exact ⟨fr, F, ρ, n, .ok y, _, R, h1, fun F1 H1 v R1 s1 d1 => ⟨v, .ty T, _, _, _, rfl, .ty T, ty_of R1.core.sub d1 ‹_›, kit_ty ‹_›, k F1 H1 _ R1 s1 (.bl _)⟩⟩
      · cases h3
    · cases h3
end
/-! ### a dict of the module with text keys -/
def flDB : D → Value → Bool
  | .non, .none => true
  | .bl a, .bool b => a == b
  | .int i, .int j _ => i == j
  | .str x, .str y _ => x == y
  | _, _ => false
def allDB : List D → List Value → Bool
  | [], [] => true
  | d :: ds, v :: vs => flDB d v && allDB ds vs
  | _, _ => false
def relDB (K : PySem.W.Frag) (d : D) (u : Value) : Bool := match d, u with
  | .tup ds, .ref a => (match K.lookup a with
    | some ⟨.type c, _, .seq its _, _⟩ => decide (c = "tuple") && (decide (its.size ≤ 1000) && allDB ds its.toList)
    | _ => false)
  | d, u => flDB d u
def tabDB (K : PySem.W.Frag) (a : Addr) (tbl : List (Str × D)) : Bool := tbl.all fun q => match PySem.W.nsIn K a q.1 with
  | some (some u) => relDB K q.2 u
  | _ => false
theorem flDB_ok {K : PySem.W.Frag} {W : Wd} {d : D} {u : Value} (h : flDB d u = true) : ∃ v, RelV v u ∧ ∀ dr F, Den K W dr F v d := by
  unfold flDB at h
  split at h
  · exact ⟨.non, rfl, fun _ _ => .non⟩
  · rw [eq_of_beq h]; exact ⟨.bl _, rfl, fun _ _ => .bl _⟩
  · rw [eq_of_beq h]; exact ⟨.int _, ⟨_, rfl⟩, fun _ _ => .int _⟩
  · rw [eq_of_beq h]; exact ⟨.str _, ⟨_, rfl⟩, fun _ _ => .str _⟩
  · cases h
theorem allDB_ok {K : PySem.W.Frag} {W : Wd} : ∀ {ds : List D} {us : List Value}, allDB ds us = true → ∃ vs, Vals vs us ∧ ∀ dr F, Dens K W dr F vs ds
  | [], [], _ => ⟨[], .nil, fun _ _ => .nil⟩
  | d :: ds, u :: us, h => by
    have h' : (flDB d u && allDB ds us) = true := h
    rw [Bool.and_eq_true] at h'
    obtain ⟨v, r, e⟩ := flDB_ok (K := K) (W := W) h'.1
    obtain ⟨vs, rs, es⟩ := allDB_ok (K := K) (W := W) h'.2
    exact ⟨v :: vs, .cons r rs, fun dr F => .cons (e dr F) (es dr F)⟩
  | [], _ :: _, h => by cases h
  | _ :: _, [], h => by cases h
theorem relDB_ok {K : PySem.W.Frag} {W : Wd} {d : D} {u : Value} (h : relDB K d u = true) : ∃ v, RelV v u ∧ ∀ dr F, Den K W dr F v d := by
  unfold relDB at h
  split at h
  · split at h
    · rename_i c od its n sl q
      rw [Bool.and_eq_true, Bool.and_eq_true] at h
      obtain ⟨h1, h2, h3⟩ := h
      have hc := of_decide_eq_true h1
      subst hc
      obtain ⟨vs, rs, es⟩ := allDB_ok (K := K) (W := W) h3
      exact ⟨.ref _, rfl, fun dr F => .tup (.inr ⟨_, its, n, q, rfl, rfl, by have := of_decide_eq_true h2; rw [sizeLine_eq]; omega, rs⟩) (es dr F)⟩
    · cases h
  · exact flDB_ok h
structure KTab (K : PySem.W.Frag) (w : World) (W : Wd) (a : Addr) (tbl : List (Str × D)) : Prop where
  kd : ∃ es n, KDict K w a es n
  yes : ∀ z x, tbl.lookup z = some x → ∃ u v, PySem.W.nsIn K a z = some (some u) ∧ RelV v u ∧ ∀ dr F, Den K W dr F v x
  no : ∀ z, tbl.lookup z = none → PySem.W.nsIn K a z = some none
theorem lk_mem {z : Str} {x : D} : ∀ {tbl : List (Str × D)}, tbl.lookup z = some x → (z, x) ∈ tbl
  | (k, y) :: r, h => by
    rw [List.lookup_cons] at h
    cases q : z == k with
    | true =>
      rw [q] at h
      injection h with h
      rw [← h, eq_of_beq q]
      exact List.mem_cons_self
    | false =>
      rw [q] at h
      exact List.mem_cons_of_mem _ (lk_mem h)
theorem lk_no {z : Str} : ∀ {tbl : List (Str × D)}, tbl.lookup z = none → ∀ k ∈ tbl.map (·.1), k ≠ z
  | [], _, _, h => by cases h
  | (k, y) :: r, h, k', hk => by
    rw [List.lookup_cons] at h
    cases q : z == k with
    | true => rw [q] at h; cases h
    | false =>
      rw [q] at h
      rcases List.mem_cons.mp hk with e | e
      · subst e
        intro e
        rw [e] at q
        simp at q
      · exact lk_no h k' e
theorem ktab_of {K : PySem.W.Frag} {w : World} {W : Wd} {a : Addr} {tbl : List (Str × D)} (h1 : He.dicW K a = some (He.keysIn w.params (tbl.map (·.1)))) (h2 : tabDB K a tbl = true) : KTab K w W a tbl := by
  refine ⟨He.dicW_ok h1, fun z x e => ?_, fun z e => ?_⟩
  · have h3 := List.all_eq_true.mp h2 _ (lk_mem e)
    cases q : PySem.W.nsIn K a z with
    | none => rw [q] at h3; cases h3
    | some r =>
      rw [q] at h3
      cases r with
      | none => cases h3
      | some u =>
        obtain ⟨v, r, hd⟩ := relDB_ok (W := W) h3
        exact ⟨u, v, rfl, r, hd⟩
  · obtain ⟨es, n, T⟩ := He.dicW_ok h1
    unfold He.dicW at h1
    rw [T.at_] at h1
    have hk : es.toList.map He.keyOf = He.keysIn w.params (tbl.map (·.1)) := by
      simp [T.low] at h1
      exact h1
    have key : ∀ en ∈ es.toList, ∃ k t, en.key = .str k t ∧ k ≠ z := fun en hen => by
      have : He.keyOf en ∈ He.keysIn w.params (tbl.map (·.1)) := by rw [← hk]; exact List.mem_map_of_mem hen
      unfold He.keysIn at this
      obtain ⟨k, hk1, hk2⟩ := List.mem_map.mp this
      unfold He.keyOf at hk2
      split at hk2
      · rename_i x t q
        injection hk2 with hk2
        injection hk2 with hk2 hk3
        exact ⟨x, t, q, by rw [← hk2]; exact lk_no e k hk1⟩
      · cases hk2
    unfold PySem.W.nsIn
    rw [T.at_]
    have f1 : es.toList.find? (·.key.isStr z) = none := List.find?_eq_none.mpr fun en hen => by
      obtain ⟨k, t, q, hne⟩ := key en hen
      rw [q]
      show ¬ ((k == z) = true)
      exact fun h => hne (eq_of_beq h)
    have f2 : es.toList.any (·.refKey) = false := List.any_eq_false.mpr fun en hen => by
      obtain ⟨k, t, q, hne⟩ := key en hen
      unfold DictEntry.refKey
      rw [q]
      simp
    show (match es.toList.find? (·.key.isStr z) with | some e => some (some e.val) | none => if es.toList.any (·.refKey) then none else some none) = some none
    rw [f1, f2]
    rfl
section
variable {X : Cx} {W : Wd} {x : Str} {p pos : Pos} {e : Expr} {f : EX} {a : Addr} {tbl : List (Str × D)}
def dInK (tbl : List (Str × D)) : D → Option D
  | .str z => some (.bl (tbl.lookup z).isSome)
  | _ => none
def dNiK (tbl : List (Str × D)) : D → Option D
  | .str z => some (.bl (!(tbl.lookup z).isSome))
  | _ => none
def dIxK (tbl : List (Str × D)) : D → Option D
  | .str z => tbl.lookup z
  | _ => none
theorem d_kd {r : R2} {op : D → Option D} {fe : EX} {tn : TE} (hn : tn = tC (.ref a)) (hd : ∀ (H : Hp) (v : V) (d y : D) (Q : VK) (fr : Fr) (F : Hp), Den X.K W fr.dr F v d → op d = some y → (∀ w, (∀ dr F, Den X.K W dr F w y) → Q w H) → r v (.ref a) H Q) {σ : St} {H : Hp} {Q : VK} (h : tD X W (e1 op fe) σ H Q) : tOp r (tD X W fe) tn σ H Q := by
  subst hn
  obtain ⟨fr, F, ρ, n, r, n', R, e, k⟩ := h
  rcases r with z | d
  · exact R.dE1 e k
  obtain ⟨y, n1, h1, h2⟩ := M.bind_ok e
  obtain ⟨h3, h4⟩ := M.opt_ok h2
  subst h4
  exact ⟨fr, F, ρ, n, .ok y, _, R, h1, fun F1 H1 v R1 s1 d1 => hd H1 v y d Q fr F1 d1 h3 fun w hw => k F1 H1 w R1 s1 (hw _ _)⟩
theorem d_inK (T : KTab X.K X.w W a tbl) (hg : Gl X x) (hm : X.mg x = some (.ref a)) (he : PD X W e f) (hd : (x == ("__debug__" : Str)) = false := by decide) (hb : behindInMarks .In (.Name x p) = false := by rfl) : PD X W (.Compare e [.In] [.Name x p] pos) (e1 (dInK tbl) f) := by
  obtain ⟨es, n, D⟩ := T.kd
  refine imp_E (pe_cmpR (op_in_kd D) he (pe_glob (v := .ref a) hg hm rfl hd) hb) fun σ H Q h => d_kd rfl (fun H v d y Q fr F dv ey k => ?_) h
  unfold dInK at ey
  split at ey
  · rename_i z
    cases dv; cases ey
    cases q : tbl.lookup z with
    | none => exact ⟨z, none, rfl, rfl, T.no z q, k _ fun _ _ => by rw [q]; exact .bl _⟩
    | some y =>
      obtain ⟨u, v, h1, h2, h3⟩ := T.yes z y q
      exact ⟨z, some u, rfl, rfl, h1, k _ fun _ _ => by rw [q]; exact .bl _⟩
  · cases ey
theorem d_niK (T : KTab X.K X.w W a tbl) (hg : Gl X x) (hm : X.mg x = some (.ref a)) (he : PD X W e f) (hd : (x == ("__debug__" : Str)) = false := by decide) (hb : behindInMarks .NotIn (.Name x p) = false := by rfl) : PD X W (.Compare e [.NotIn] [.Name x p] pos) (e1 (dNiK tbl) f) := by
  obtain ⟨es, n, D⟩ := T.kd
  refine imp_E (pe_cmpR (op_notIn_kd D) he (pe_glob (v := .ref a) hg hm rfl hd) hb) fun σ H Q h => d_kd rfl (fun H v d y Q fr F dv ey k => ?_) h
  unfold dNiK at ey
  split at ey
  · rename_i z
    cases dv; cases ey
    cases q : tbl.lookup z with
    | none => exact ⟨z, none, rfl, rfl, T.no z q, k _ fun _ _ => by rw [q]; exact .bl _⟩
    | some y =>
      obtain ⟨u, v, h1, h2, h3⟩ := T.yes z y q
      exact ⟨z, some u, rfl, rfl, h1, k _ fun _ _ => by rw [q]; exact .bl _⟩
  · cases ey
theorem d_ixK (T : KTab X.K X.w W a tbl) (hg : Gl X x) (hm : X.mg x = some (.ref a)) (he : PD X W e f) (hd : (x == ("__debug__" : Str)) = false := by decide) (hs : PlainIx e := by exact fun _ _ => rfl) : PD X W (.Subscript (.Name x p) e pos) (e1 (dIxK tbl) f) := by
  refine imp_E (pe_ix ix_kdict (pe_glob (v := .ref a) hg hm rfl hd) he hs) fun σ H Q h => ?_
  obtain ⟨fr, F, ρ, n, r, n', R, e, k⟩ := h
  rcases r with z | d
  · exact R.dE1 e k
  obtain ⟨y, n1, h1, h2⟩ := M.bind_ok e
  obtain ⟨h3, h4⟩ := M.opt_ok h2
  subst h4
  refine ⟨fr, F, ρ, n, .ok y, _, R, h1, fun F1 H1 v R1 s1 d1 => ?_⟩
  unfold dIxK at h3
  split at h3
  · cases d1
    obtain ⟨es, m, D⟩ := T.kd
    obtain ⟨u, v, g1, g2, g3⟩ := T.yes _ _ h3
    exact ⟨a, _, v, rfl, rfl, ⟨es, m, u, D.at_, D.lit, g1, g2⟩, k F1 H1 v R1 s1 (g3 _ _)⟩
  · cases h3
end
end DL
end

section
set_option Elab.async false
set_option linter.all false
set_option autoImplicit false
set_option maxRecDepth 100000
namespace DL
open PySem PySem.Spec L2 PyProof.Rows
section
variable {prog : Program} {w : World} {A : Around} {E : Value → Shared → Prop} {s : Shared}
theorem sliceApplied_rev {sl : Addr} {vs : Value} {n : Nat} {Q : Int × Int × Nat → Shared → Prop} (hs : s.heap.IsSliceOf sl .none .none vs) (ps : IsPart vs (some (-1)))
    (h : Q (((n : Int) - 1), -1, n) s) : wpAny (model prog w) A (Builtin.Slice.sliceApplied (.ref sl) (pure (n : Int))) Q E s := by
  obtain ⟨os, hos, hcs, hds⟩ := id hs
  unfold Builtin.Slice.sliceApplied Builtin.Slice.sliceFields
  refine wpAny_bind (wpAny_bind (wpAny_field hos hds (x := .none) rfl (wpAny_bind (wpAny_field hos hds (x := .none) rfl (wpAny_bind (wpAny_field hos hds (x := vs) rfl (wpAny_pure ?_)))))))
  refine wpAny_bind (HT.slicePart_ ps ?_)
  show wpAny _ _ (if ((-1 : Int) == 0) = true then _ else _) _ _ s
  rw [if_neg (by decide)]
  refine wpAny_bind (HT.slicePart_ .none (wpAny_bind (HT.slicePart_ .none (wpAny_bind (wpAny_pure ?_)))))
  show wpAny _ _ (pure ((n : Int) - 1, (-1 : Int), Builtin.Slice.slicePlaces ((n : Int) - 1) (-1) (-1))) _ _ s
  have e : Builtin.Slice.slicePlaces ((n : Int) - 1) (-1) (-1) = n := by
    unfold Builtin.Slice.slicePlaces
    rw [if_neg (by omega), show (-(-1 : Int)) = 1 from rfl, Int.ediv_one]
    split <;> omega
  rw [e]
  exact wpAny_pure h
theorem pick_rev (xs : Array Value) : ((List.range xs.size).filterMap fun (m : Nat) => xs[(((xs.size : Int) - 1) + (m : Int) * (-1)).toNat]?).toArray = xs.toList.reverse.toArray := by
  have e : (fun (m : Nat) => xs[(((xs.size : Int) - 1) + (m : Int) * (-1)).toNat]?) = (fun k => xs[k]?) ∘ fun m => xs.size - 1 - m := by
    funext m
    have : (((xs.size : Int) - 1) + (m : Int) * (-1)).toNat = xs.size - 1 - m := by omega
    rw [this]
    rfl
  rw [e, ← List.filterMap_map, PySem.W.krv_range, List.filterMap_reverse, PySem.W.krv_all]
theorem getItem_tuple_rev {t sl : Addr} {items : Array Value} {vs : Value} {Q : Value → Shared → Prop} (ht : IsTup s.heap t items) (hs : s.heap.IsSliceOf sl .none .none vs) (ps : IsPart vs (some (-1)))
    (h : Q (.ref s.heap.objs.size) { s with heap := s.heap.push { cls := .type "tuple", data := .seq items.toList.reverse.toArray } })
    (hsz : items.size ≤ sizeLine) : wpAny (model prog w) A (getItem (.ref t) (.ref sl)) Q E s := by
  have htake : sizeOk (.seq items.toList.reverse.toArray) := by
    show items.toList.reverse.toArray.size ≤ sizeLine
    rw [List.size_toArray, List.length_reverse, Array.length_toList]
    exact hsz
  obtain ⟨os, hos, hcs, hds⟩ := id hs
  have hTs : s.TypeIs (.ref sl) "slice" := ⟨os, hos, hcs⟩
  unfold getItem
  try with_reducible refine wpAny_holding ?_
  first | refine wpAny_bind (wpAny_pure ?_) | skip
  refine wpAny_bind (wpAny_sequenceKey ht.typeIs (by decide) ?_)
  refine wpAny_bind (wpAny_callSpecial?_slot (name := Str.ofString "__getitem__") ht.typeIs PyProof.Rows.slot_tuple_getitem
    (wpAny_call_entry PyProof.Rows.slot_tuple_getitem ht.typeIs entry_tuple_getitem ?_ (args_tuple_getitem _ _)))
  show wpAny _ _ (Builtin.Tuple.tupleItemsOf (.ref t) >>= _) _ _ s
  refine wpAny_bind (tupleItemsOf_ ht ?_)
  refine wpAny_bind (wpAny_typeOf hTs ?_)
  rw [if_pos (by decide)]
  refine wpAny_bind (sliceApplied_rev hs ps ?_)
  have hno : ¬ ((((items.size : Int) - 1) == 0 && (-1 : Int) == 1 && items.size == items.size) = true) := by
    intro q
    rw [Bool.and_eq_true, Bool.and_eq_true] at q
    exact absurd q.1.2 (by decide)
  show wpAny _ _ (if (((items.size : Int) - 1) == 0 && (-1 : Int) == 1 && items.size == items.size) = true then _ else _) _ _ s
  rw [if_neg hno, pick_rev]
  first
    | exact wpAny_bind (m := Builtin.Tuple.tupleExact _) (wpAny_newObj_type (wpAny_pure ⟨_, rfl, wpAny_pure h⟩) htake)
    | exact wpAny_bind (m := Builtin.Tuple.tupleExact _) (wpAny_newObj_type (wpAny_bind (wpAny_pure (wpAny_pure ⟨_, rfl, wpAny_pure h⟩))) htake)
    | exact wpAny_bind (wpAny_bind (m := Builtin.Tuple.tupleExact _) (wpAny_newObj_type (wpAny_pure (wpAny_pure ⟨_, rfl, wpAny_pure h⟩)) htake))
    | exact wpAny_bind (wpAny_bind (m := Builtin.Tuple.tupleExact _) (wpAny_newObj_type (wpAny_pure ⟨_, rfl, wpAny_pure h⟩) htake))
end
section
variable {X : Cx} {W : Wd}
def tRevQ (K : PySem.W.Frag) (te : TE) : TE := fun σ H Q => te σ H fun x H1 => ∃ a xs, x = .ref a ∧ ((SqL K H1 a xs ∧ ∀ p, H1 p = none → Q (.ref p) (upd H1 p (.lst xs.reverse))) ∨ (SqT K H1 a xs ∧ ∀ p, H1 p = none → Q (.ref p) (upd H1 p (.tup xs.reverse))))
theorem pe_revQ {e : Expr} {te : TE} {k : Nat} {p1 p2 p3 pos : Pos} (he : PE X e te) : PE X (.Subscript e (.Slice none none (some (.UnaryOp .USub (.Constant (.int 1) k p1) p2)) p3) pos) (tRevQ X.K te) := by
  refine ⟨fun pins s σ H Q I h => ?_⟩
  refine Subscript_ (thn (he.run pins s σ H _ I h) fun v s1 ⟨x, H1, I1, r1, q1⟩ => ?_)
  obtain ⟨a, xs, ex, hq⟩ := q1
  subst ex
  cases r1
  have hst : PO X (some (.UnaryOp .USub (.Constant (.int 1) k p1) p2)) (tPart (tUn (rU fun i => .int (-i)) (tC (.int 1)))) := po_some (pe_un un_neg pe_int)
  refine wpAny_Slice (thn (po_none.run pins s1 σ H1 (fun o H2 => o = none ∧ H2 = H1) I1 ⟨rfl, rfl⟩) fun vl s2 ⟨l, H2, I2, pl, el, e2⟩ => ?_)
  subst el e2
  refine thn (po_none.run pins s2 σ H2 (fun o H3 => o = none ∧ H3 = H2) I2 ⟨rfl, rfl⟩) fun vu s3 ⟨u, H3, I3, pu, eu, e3⟩ => ?_
  subst eu e3
  refine thn (hst.run pins s3 σ H3 (fun o H4 => o = some (-1) ∧ H4 = H3) I3 ⟨1, rfl, -1, rfl, rfl, rfl⟩) fun vs s4 ⟨o, H4, I4, ps, eo, e4⟩ => ?_
  subst eo e4
  have I5 : Inv X pins σ H4 { s4 with heap := s4.heap.push { cls := .type "slice", data := .fields #[vl, vu, vs] } } := I4.kept (t' := s4.toks) fun b ob q => Heap.get?_push_of_some _ q
  show wpAny (model X.prog X.w) X.A (subscriptTail e (.Slice none none (some (.UnaryOp .USub (.Constant (.int 1) k p1) p2)) p3) (.ref a) (.ref s4.heap.objs.size)) (EP X pins σ Q) X.xe { s4 with heap := s4.heap.push { cls := .type "slice", data := .fields #[vl, vu, vs] } }
  rcases hq with ⟨hx, q⟩ | ⟨hx, q⟩
  · obtain ⟨its, r, ht, hz⟩ := I5.list hx
    have hlen := r.length
    refine tail_any (ops := [.ref a, .ref s4.heap.objs.size]) ht.isList.typeIs (PySem.slot_list_getitem.lookup) ?_ (by with_unfolding_all rfl)
    refine wpAny_getItem_list_slice ht.isList (Heap.IsSliceOf.new _ vl vu vs) pl pu ps (by decide) ?_ (by rw [List.size_toArray]; omega)
    rw [PySem.W.krv_pick]
    refine ⟨.ref _, _, I5.laid (t' := s4.toks) (o := .lst xs.reverse) (fun b ob q => Heap.get?_push_of_some _ q) (Nat.le_refl _) ?_, rfl, q _ (I5.hok.fresh (Nat.le_refl _))⟩
    exact ⟨by rw [List.length_reverse]; exact hz, _, 0, r.reverse, Heap.get?_push_size _ rfl⟩
  · obtain ⟨its, r, ht, hz⟩ := I5.tuple hx
    have hlen := r.length
    cases pl
    cases pu
    refine tail_any (ops := [.ref a, .ref s4.heap.objs.size]) ht.typeIs (PyProof.Rows.slot_tuple_getitem.lookup) ?_ (by with_unfolding_all rfl)
    refine getItem_tuple_rev ht (Heap.IsSliceOf.new _ .none .none vs) ps ?_ (by rw [List.size_toArray]; omega)
    refine ⟨.ref _, _, I5.laid (t' := s4.toks) (o := .tup xs.reverse) (fun b ob q => Heap.get?_push_of_some _ q) (Nat.le_refl _) ?_, rfl, q _ (I5.hok.fresh (Nat.le_refl _))⟩
    exact ⟨by rw [List.length_reverse]; exact hz, _, r.reverse, IsTup.new _ _⟩
def dRev : D → Option D
  | .tup xs => some (.tup xs.reverse)
  | .lst xs => some (.lst xs.reverse)
  | _ => none
theorem Dens.rev {K : PySem.W.Frag} {W : Wd} {dr : Option Addr} {F : Hp} : ∀ {vs : List V} {ds : List D}, Dens K W dr F vs ds → Dens K W dr F vs.reverse ds.reverse
  | _, _, .nil => .nil
  | _, _, .cons h1 h2 => by
    rw [List.reverse_cons, List.reverse_cons]
    exact Dens.append (Dens.rev h2) (.cons h1 .nil)
theorem d_rev {e : Expr} {f : EX} {k : Nat} {p1 p2 p3 pos : Pos} (he : PD X W e f) : PD X W (.Subscript e (.Slice none none (some (.UnaryOp .USub (.Constant (.int 1) k p1) p2)) p3) pos) (e1 dRev f) := imp_E (pe_revQ he) fun σ H Q ⟨fr, F, ρ, n, r, n', R, ev, k⟩ => by
  rcases r with z | d
  · exact R.dE1 ev k
  obtain ⟨y, n1, h1, h2⟩ := M.bind_ok ev
  obtain ⟨h3, h4⟩ := M.opt_ok h2
  subst h4
  refine ⟨fr, F, ρ, n, .ok y, _, R, h1, fun F1 H1 v R1 s1 d1 => ?_⟩
  unfold dRev at h3
  split at h3
  · cases h3
    cases d1 with
    | tup g1 g2 => exact ⟨_, _, rfl, .inr ⟨R1.core.sub.sqT g1, put_tup R1 g2.rev fun F' H' v R' s' d' => k F' H' v R' (s1.trans s') d'⟩⟩
  · cases h3
    cases d1 with
    | lst g1 g2 => exact ⟨_, _, rfl, .inl ⟨SqL.of (R1.core.sub _ _ g1), put_lst R1 g2.rev fun F' H' v R' s' d' => k F' H' v R' (s1.trans s') d'⟩⟩
  · cases h3
end
end DL
end

section
set_option Elab.async false
set_option linter.all false
set_option autoImplicit false
set_option maxRecDepth 100000
namespace DL
open PySem PySem.Spec L2 PyProof.Rows
/-! ### reading a dict -/
def keyD : D → Option Key
  | .int i => some (.inl i)
  | .str x => some (.inr x)
  | _ => none
theorem key_of {K : PySem.W.Frag} {W : Wd} {dr : Option Addr} {F : Hp} {v : V} {d : D} {k : Key} (h : Den K W dr F v d) (e : keyD d = some k) : v = kV k := by
  unfold keyD at e
  split at e
  · cases e; cases h; rfl
  · cases e; cases h; rfl
  · cases e
section
variable {κ : Type} [DecidableEq κ]
def valD : List κ → List D → κ → Option D
  | x :: xs, d :: ds, k => if x = k then some d else valD xs ds k
  | _, _, _ => none
theorem val_zip {K : PySem.W.Frag} {W : Wd} {dr : Option Addr} {F : Hp} {k : κ} {d : D} : ∀ {ks : List κ} {us : List V} {ds : List D}, ks.length = us.length → Dens K W dr F us ds → valD ks ds k = some d → ∃ v, valV (ks.zip us) k = some v ∧ Den K W dr F v d
  | [], _, _, _, _, h => by cases h
  | x :: xs, [], _, l, _, h => by cases l
  | x :: xs, u :: us, _, l, .cons h1 h2, h => by
    unfold valD at h
    split at h
    · rename_i q
      cases h
      exact ⟨u, by rw [List.zip_cons_cons]; exact valV_pos q, h1⟩
    · rename_i q
      obtain ⟨v, e1, e2⟩ := val_zip (ks := xs) (by simpa using l) h2 h
      exact ⟨v, by rw [List.zip_cons_cons, valV_neg q]; exact e1, e2⟩
def dkKs (ks : List κ) (k : κ) : List κ := if (ks.any fun x => decide (x = k)) = true then ks else ks ++ [k]
def dkDs {α : Type} (ks : List κ) (ds : List α) (k : κ) (d : α) : List α := if (ks.any fun x => decide (x = k)) = true then List.zipWith (fun x e => if x = k then d else e) ks ds else ds ++ [d]
theorem any_zip {k : κ} : ∀ {ks : List κ} {us : List V}, ks.length = us.length → ((ks.zip us).any fun kv => decide (kv.1 = k)) = ks.any fun x => decide (x = k)
  | [], _, _ => by simp
  | x :: xs, [], l => by cases l
  | x :: xs, u :: us, l => by
    rw [List.zip_cons_cons, List.any_cons, List.any_cons, any_zip (ks := xs) (by simpa using l)]
theorem map_zip {k : κ} {v : V} : ∀ {ks : List κ} {us : List V}, ks.length = us.length → (ks.zip us).map (fun kv => if kv.1 = k then (kv.1, v) else kv) = ks.zip (List.zipWith (fun x e => if x = k then v else e) ks us)
  | [], _, _ => by simp
  | x :: xs, [], l => by cases l
  | x :: xs, u :: us, l => by
    rw [List.zip_cons_cons, List.map_cons, List.zipWith_cons_cons, List.zip_cons_cons, map_zip (ks := xs) (by simpa using l)]
    split <;> rfl
theorem put_zip {k : κ} {v : V} {ks : List κ} {us : List V} (l : ks.length = us.length) : putK (ks.zip us) k v = (dkKs ks k).zip (dkDs ks us k v) := by
  unfold putK dkKs dkDs
  rw [any_zip l]
  split
  · exact map_zip l
  · rw [List.zip_append l]; rfl
theorem put_len {α : Type} {k : κ} {v : α} {ks : List κ} {us : List α} (l : ks.length = us.length) : (dkKs ks k).length = (dkDs ks us k v).length := by
  unfold dkKs dkDs
  split
  · simp [l]
  · simp [l]
theorem put_dens {K : PySem.W.Frag} {W : Wd} {dr : Option Addr} {F : Hp} {k : κ} {v : V} {d : D} (hv : Den K W dr F v d) : ∀ {ks : List κ} {us : List V} {ds : List D}, Dens K W dr F us ds → Dens K W dr F (List.zipWith (fun x e => if x = k then v else e) ks us) (List.zipWith (fun x e => if x = k then d else e) ks ds)
  | [], _, _, _ => by simp; exact .nil
  | x :: xs, _, _, .nil => by simp; exact .nil
  | x :: xs, _, _, .cons h1 h2 => by
    rw [List.zipWith_cons_cons, List.zipWith_cons_cons]
    refine .cons ?_ (put_dens hv h2)
    split
    · exact hv
    · exact h1
theorem dkDs_dens {K : PySem.W.Frag} {W : Wd} {dr : Option Addr} {F : Hp} {k : κ} {v : V} {d : D} {ks : List κ} {us : List V} {ds : List D} (hv : Den K W dr F v d) (h : Dens K W dr F us ds) : Dens K W dr F (dkDs ks us k v) (dkDs ks ds k d) := by
  unfold dkDs
  split
  · exact put_dens hv h
  · exact h.append (.cons hv .nil)
end
def dIxA (x y : D) : Option D := match x with
  | .dic ks ds => (match keyD y with | some k => valD ks ds k | none => none)
  | _ => dIx x y
section
variable {X : Cx} {W : Wd} {a b : Expr} {fa fb : EX} {pos : Pos}
def rIxDG : R2 := fun x y H Q => ∃ a v, x = .ref a ∧ DGet H a y (some v) ∧ Q v H
theorem ix_dict (hu : X.A.units + 1 < cLine) : IxR X rIxDG := by
  intro value slice pins s σ H x y v u Q I rx ry h hs
  obtain ⟨a, w, rfl, g, q⟩ := h
  cases rx
  exact tail_any (dict_typeIs I g) PySem.F.slot_dict_getitem.lookup (d_getItem hu I g ry fun w' s3 I3 rw' => ⟨w, H, I3, rw', q⟩) hs
theorem q_ixA {K : PySem.W.Frag} : Op2 K W (fun x y H Q => rIx K x y H Q ∨ rIxDG x y H Q) dIxA := by
  intro fr F H σ ρ n x y d v u Q R dx dy h k
  unfold dIxA at h
  split at h
  · rename_i ks ds
    cases q : keyD y with
    | none => rw [q] at h; cases h
    | some key =>
      rw [q] at h
      have hk := key_of dy q
      subst hk
      cases dx with
      | dic l h1 h2 =>
        obtain ⟨w, e1, e2⟩ := val_zip l h2 h
        exact .inr ⟨_, w, rfl, .inl ⟨_, key, R.core.sub.rd h1, rfl, e1.symm⟩, k F H w R (Sub.refl _) e2⟩
  · exact .inl (q_ix fr F H σ ρ n x y d v u Q R dx dy h k)
theorem d_ixA (hu : X.A.units + 64 < cLine) (ha : PD X W a fa) (hb : PD X W b fb) (hs : PlainIx b := by exact fun _ _ => rfl) : PD X W (.Subscript a b pos) (e2 dIxA fa fb) :=
  imp_E (pe_ix (ix_seq.or (ix_dict (by omega))) ha hb hs) fun _ _ _ h => d_tOp q_ixA h
/-! ### a store in an own dict -/
def dPut (kd : D × D) : D → Option D
  | .dic ks ds => (match keyD kd.1 with
    | some k => if ks.length < sizeLine then some (.dic (dkKs ks k) (dkDs ks ds k kd.2)) else none
    | none => none)
  | _ => none
def sPut (i : Nat) (fk fv : EX) : SX := fun ρ => M.bind (fv ρ) fun d => M.bind (M.opt (own? ρ i)) fun _ => M.bind (fk ρ) fun k => M.bind (M.opt ((own? ρ i).bind (dPut (k, d)))) fun o => M.pure (.nx (ρ.set i (.own o)))
theorem S_dput {i : Nat} {o ie value : Expr} {fk fv : EX} {p2 : Pos} (hu : X.A.units + 64 < cLine) (ho : PE X o (tVar i)) (hk : PD X W ie fk) (hv : PD X W value fv) (hs : swapsWith value (some (.Subscript o ie p2)) pos.line X.env = pure false := by rfl) :
    PDS X W (.Assign [.Subscript o ie p2] value pos) (sPut i fk fv) := imp_S (ps_dput (by omega) ho hk hv hs) fun E σ H ⟨fr, F, ρ, n, r, n', R, e, k⟩ => by
  rcases M.bind_any e with ⟨z, e1, rfl⟩ | ⟨d, n1, e1, h0⟩
  · exact ⟨fr, F, ρ, n, .error z, n', R, e1, KS.x k⟩
  rcases M.bind_any h0 with ⟨z, e1, rfl⟩ | ⟨od0, n1', e0, h1⟩
  · exact (M.opt_err e1).elim
  obtain ⟨q0, q1⟩ := M.opt_ok e0
  subst q1
  rcases r with z | o
  · refine ⟨fr, F, ρ, n, .ok d, _, R, e1, fun F1 H1 v R1 s1 d1 => ?_⟩
    obtain ⟨ad0, s0⟩ := R1.slots
    obtain ⟨z1, _⟩ := s0.own i _ (own_some q0)
    refine ⟨_, z1, R1.dE h1 (KX.mono (KS.x k) s1) fun _ _ _ _ _ _ h _ _ _ => ?_⟩
    rcases M.bind_err h with h | ⟨_, _, _, h⟩
    · exact (M.opt_err h).elim
    · exact (M.pure_err h).elim
  clear e h0 e0
  obtain ⟨kd, n2, e2, h2⟩ := M.bind_ok h1
  obtain ⟨dd, n3, e3, h3⟩ := M.bind_ok h2
  obtain ⟨e4, e5⟩ := M.opt_ok e3
  obtain ⟨e6, e7⟩ := M.pure_ok h3
  subst e5 e6 e7
  cases q : own? ρ i with
  | none => rw [q] at e4; cases e4
  | some od =>
    rw [q] at e4
    have e4 : dPut (kd, d) od = some dd := e4
    have hi := own_some q
    unfold dPut at e4
    split at e4
    · rename_i dd0 ks ds ehi
      cases qk : keyD kd with
      | none => rw [qk] at e4; cases e4
      | some key =>
        rw [qk] at e4
        have e4 : (if ks.length < sizeLine then some (D.dic (dkKs ks key) (dkDs ks ds key d)) else none) = some dd := e4
        split at e4
        · rename_i hl
          cases e4
          refine ⟨fr, F, ρ, n, .ok d, _, R, e1, fun F1 H1 v R1 s1 d1 => ?_⟩
          obtain ⟨ad0, s0⟩ := R1.slots
          obtain ⟨z1, _⟩ := s0.own i _ hi
          refine ⟨_, z1, fr, F1, ρ, _, .ok kd, _, R1, e2, fun F2 H2 u R2 s2 d2 => ?_⟩
          obtain ⟨ad, s⟩ := R2.slots
          obtain ⟨a1, a2, a3, a4, ⟨us, a5, a6, a7⟩, a8⟩ := s.own i _ hi
          have ea : ad i = ad0 i := by rw [a1] at z1; injection z1 with z1; injection z1 with z1; injection z1
          have hu := key_of d2 qk
          subst hu
          have d1' := d1.mono s2 fun _ z => z
          refine ⟨ad i, _, by rw [ea], .inl ⟨_, key, a6, rfl, by rw [List.length_zip, a5, Nat.min_self, ← a5]; exact hl, rfl⟩, ?_⟩
          rw [put_zip a5]
          exact k F2 _ _ (R2.change s hi ⟨_, put_len a5, upd_same, dkDs_dens d1' a7⟩ rfl) (s1.trans s2)
        · cases e4
    · cases e4
end
end DL
end

section
set_option Elab.async false
set_option linter.all false
set_option autoImplicit false
set_option maxRecDepth 100000
namespace DL
open PySem PySem.Spec L2 PyProof.Rows
section
variable {X : Cx} {W : Wd} {a b e : Expr} {fa fb f : EX} {pos : Pos}
/-! ### list(d) -/
def rListR : List V → Hp → VK → Prop := fun xs H Q => ∃ p kvs, xs = [.ref p] ∧ Rd H p (.dK kvs) ∧ ∀ q, H q = none → Q (.ref q) (upd H q (.lst (kvs.map fun kv => kV kv.1)))
theorem call_list_dR (hc : X.calm = true) : CallR X (.type "list") rListR := by
  intro pins s σ H xs us Q I r h
  obtain ⟨p, kvs, e, hk, q⟩ := h
  subst e
  obtain ⟨u, eu, rx⟩ := vals1 r
  subst eu
  obtain rfl : u = Value.ref p := rx
  obtain ⟨z, lo, vs, rk, hd⟩ := dk_rd I.hok hk
  obtain ⟨ep, hat⟩ := hd.dictAt
  have hl : kvs.length = vs.length := Paired.length rk
  refine PySem.W.kdl_call (PySem.W.kdl_dict (knd := mixKind X.prog X.w) (kvs := vs) (ep := ep) lo) (I.ok.hd hc) hat (by rw [← hl]; exact z) fun h' tk acc' c' hkeep hS hacc => ?_
  refine ⟨.ref s.heap.objs.size, upd H s.heap.objs.size (.lst (kvs.map fun kv => kV kv.1)), I.laid hkeep (Nat.le_refl _) (show ObjOk X.prog X.w _ _ _ (.lst (kvs.map fun kv => kV kv.1)) from ⟨?_, acc'.toList, c', ?_, ?_⟩), rfl, q _ (I.hok.fresh (Nat.le_refl _))⟩
  · rw [List.length_map]; exact z
  · have el : acc'.toList.length = acc'.size := by simp
    refine vals_of_at (by rw [List.length_map, el, hacc.1, hl]) fun j x w h1 h2 => ?_
    obtain ⟨k, y, hky, hi⟩ := hacc.2 j w (by rw [← Array.getElem?_toList]; exact h2)
    have e1 : (kvs.map (·.1))[j]? = some k := by
      rw [KV.keys rk, List.getElem?_map, hky] <;> rfl
    have e2 : (kvs.map fun kv => kV kv.1)[j]? = some (kV k) := by
      have e3 : (kvs.map fun kv => kV kv.1) = (kvs.map (·.1)).map kV := by rw [List.map_map] <;> rfl
      rw [e3, List.getElem?_map, e1] <;> rfl
    rw [e2] at h1
    cases h1
    exact keyIs_rel hi
  · rw [Array.toArray_toList]; exact hS
def kD : Key → D
  | .inl i => .int i
  | .inr x => .str x
def dLstA : List D → Option D
  | [.dic ks _] => some (.lst (ks.map kD))
  | xs => dLstOf xs
theorem dens_keys {K : PySem.W.Frag} {dr : Option Addr} {F : Hp} : ∀ {ks : List Key} {us : List V}, ks.length = us.length → Dens K W dr F ((ks.zip us).map fun kv => kV kv.1) (ks.map kD)
  | [], _, _ => by simp; exact .nil
  | k :: ks, [], l => by cases l
  | k :: ks, u :: us, l => by
    rw [List.zip_cons_cons, List.map_cons, List.map_cons]
    refine .cons ?_ (dens_keys (by simpa using l))
    cases k with
    | inl i => exact .int i
    | inr x => exact .str x
theorem q_lstA {K : PySem.W.Frag} : CallD K W (fun xs H Q => (∃ p ys, xs = [.ref p] ∧ (SqL K H p ys ∨ SqT K H p ys) ∧ ∀ l, H l = none → Q (.ref l) (upd H l (.lst ys))) ∨ rListR xs H Q) dLstA := by
  intro fr F H σ ρ n xs d vs Q R dx h k
  unfold dLstA at h
  split at h
  · cases h
    cases dx with
    | cons h1 h2 =>
      cases h2
      cases h1 with
      | dic l h3 h4 => exact .inr ⟨_, _, rfl, R.core.sub.rd h3, put_lst R (dens_keys l) k⟩
  · exact .inl (q_lstOf fr F H σ ρ n xs d vs Q R dx h k)
theorem call_listA (hc : X.calm = true) : CallR X (.type "list") (fun xs H Q => (∃ p ys, xs = [.ref p] ∧ (SqL X.K H p ys ∨ SqT X.K H p ys) ∧ ∀ l, H l = none → Q (.ref l) (upd H l (.lst ys))) ∨ rListR xs H Q) := call_list_of.or (call_list_dR hc)
/-! ### texts in order -/
def dCA (p : Int → Int → Bool) (q : Str → Str → Bool) : D → D → Option D
  | .int i, .int j => some (.bl (p i j))
  | .str i, .str j => some (.bl (q i j))
  | _, _ => none
def dLeA : D → D → Option D := dCA (fun i j => decide (i ≤ j)) fun i j => !decide (j.cps.toList < i.cps.toList)
def rCA (p : Int → Int → Bool) (q : Str → Str → Bool) : R2 := fun x y H Q => rI0 (fun i j => .bl (p i j)) x y H Q ∨ ∃ i j, x = .str i ∧ y = .str j ∧ Q (.bl (q i j)) H
theorem q_CA {K : PySem.W.Frag} (p : Int → Int → Bool) (q : Str → Str → Bool) : Op2 K W (rCA p q) (dCA p q) := by
  intro fr F H σ ρ n x y d v u Q R dx dy h k
  unfold dCA at h
  split at h
  · cases dx; cases dy; cases h
    exact .inl ⟨_, _, rfl, rfl, k F H _ R (Sub.refl _) (.bl _)⟩
  · cases dx; cases dy; cases h
    exact .inr ⟨_, _, rfl, rfl, k F H _ R (Sub.refl _) (.bl _)⟩
  · cases h
theorem d_leA (ha : PD X W a fa) (hb : PD X W b fb) : PD X W (.Compare a [.LtE] [b] pos) (e2 dLeA fa fb) := d_cmp (op_le.or op_le_str) (q_CA _ _) ha hb (nomark _)
theorem t_leA (ha : PD X W a fa) (hb : PD X W b fb) : PDT X W (.Compare a [.LtE] [b] pos) (tB (e2 dLeA fa fb)) := t_cmp (op_le.or op_le_str) (q_CA _ _) ha hb (nomark _)
/-! ### x.split(y) -/
def dSplit : D → D → Option D
  | .str x, .str y => if (y.length == 0) = false ∧ x.length + 2 ≤ sizeLine ∧ (Txt.split x y).length ≤ sizeLine then some (.lst ((Txt.split x y).map .str)) else none
  | _, _ => none
theorem dens_strs {K : PySem.W.Frag} {dr : Option Addr} {F : Hp} : ∀ ys : List Str, Dens K W dr F (ys.map V.str) (ys.map D.str)
  | [] => .nil
  | y :: ys => .cons (.str y) (dens_strs ys)
theorem d_split {apos : Pos} (ha : PD X W a fa) (hb : PD X W b fb) (hq : ∀ ρ n z n', fb ρ n = some (.error z, n') → False := by intro _ _ _ _ h; cases h) (hs : starEach [b] X.env = [(false, eval b X.env)] := by rfl) (hbase : attributeBase a "split" X.env (eval a X.env) = eval a X.env := by rfl) (hline : (apos.endLine == pos.line) = true := by rfl) :
    PD X W (.Call (.Attribute a "split" apos) [b] [] pos) (e2 dSplit fa fb) := imp_E (pe_split ha hb hs hbase hline) fun σ H Q ⟨fr, F, ρ, n, r, n', R, ev, k⟩ => by
  rcases r with z | d
  · rcases M.bind_err ev with h | ⟨x, n1, h1, h⟩
    · exact ⟨fr, F, ρ, n, .error z, n', R, h, k⟩
    · rcases M.bind_err h with h | ⟨_, _, _, h⟩
      · exact (hq _ _ _ _ h).elim
      · exact (M.opt_err h).elim
  obtain ⟨x, n1, h1, h2⟩ := M.bind_ok ev
  obtain ⟨y, n2, h3, h4⟩ := M.bind_ok h2
  obtain ⟨h5, h6⟩ := M.opt_ok h4
  subst h6
  unfold dSplit at h5
  split at h5
  · split at h5
    · rename_i x y q
      cases h5
      refine ⟨fr, F, ρ, n, .ok _, n1, R, h1, fun F1 H1 v R1 s1 d1 => ?_⟩
      cases d1
      refine ⟨⟨_, rfl⟩, fr, F1, ρ, n1, .ok _, _, R1, h3, fun F2 H2 u R2 s2 d2 => ?_⟩
      cases d2
      exact ⟨x, y, rfl, rfl, q.1, q.2.1, put_lst R2 (dens_strs _) fun F' H' v R' s' d' => k F' H' v R' ((s1.trans s2).trans s') d'⟩
    · cases h5
  · cases h5
end
end DL
end

section
set_option Elab.async false
set_option linter.all false
set_option autoImplicit false
set_option maxRecDepth 100000
namespace DL
open PySem PySem.Spec L2 PyProof.Rows
section
variable {α : Type}
def ins (le : α → α → Bool) (x : α) : List α → List α
  | [] => [x]
  | y :: r => if le x y = true then x :: y :: r else y :: ins le x r
def srt (le : α → α → Bool) : List α → List α
  | [] => []
  | x :: r => ins le x (srt le r)
theorem ins_perm (le : α → α → Bool) (x : α) : ∀ l : List α, (ins le x l).Perm (x :: l)
  | [] => .refl _
  | y :: r => by
    unfold ins
    split
    · exact .refl _
    · exact ((ins_perm le x r).cons y).trans (.swap x y r)
theorem srt_perm (le : α → α → Bool) : ∀ l : List α, (srt le l).Perm l
  | [] => .refl _
  | x :: r => (ins_perm le x _).trans ((srt_perm le r).cons x)
theorem ins_sorted {le : α → α → Bool} (tot : ∀ x y, le x y = true ∨ le y x = true) (tr : ∀ x y z, le x y = true → le y z = true → le x z = true) (x : α) : ∀ l : List α, l.Pairwise (fun a b => le a b = true) → (ins le x l).Pairwise (fun a b => le a b = true)
  | [], _ => List.pairwise_singleton ..
  | y :: r, h => by
    unfold ins
    rw [List.pairwise_cons] at h
    split
    · rename_i q
      refine List.pairwise_cons.mpr ⟨fun z hz => ?_, List.pairwise_cons.mpr h⟩
      rcases List.mem_cons.mp hz with e | e
      · rw [e]; exact q
      · exact tr _ _ _ q (h.1 z e)
    · rename_i q
      refine List.pairwise_cons.mpr ⟨fun z hz => ?_, ins_sorted tot tr x r h.2⟩
      rcases List.mem_cons.mp ((ins_perm le x r).mem_iff.mp hz) with e | e
      · rw [e]
        rcases tot x y with t | t
        · exact absurd t q
        · exact t
      · exact h.1 z e
theorem srt_sorted {le : α → α → Bool} (tot : ∀ x y, le x y = true ∨ le y x = true) (tr : ∀ x y z, le x y = true → le y z = true → le x z = true) : ∀ l : List α, (srt le l).Pairwise (fun a b => le a b = true)
  | [] => .nil
  | x :: r => ins_sorted tot tr x _ (srt_sorted tot tr r)
theorem perm_uniq {R : α → α → Prop} (anti : ∀ x y, R x y → R y x → x = y) : ∀ {l m : List α}, l.Pairwise R → m.Pairwise R → l.Perm m → l = m
  | [], m, _, _, p => by rw [List.Perm.nil_eq p]
  | x :: l, [], _, _, p => absurd p.symm.nil_eq (by simp)
  | x :: l, y :: m, h, h', p => by
    rw [List.pairwise_cons] at h h'
    have e : x = y := by
      rcases List.mem_cons.mp (p.mem_iff.mp List.mem_cons_self) with e | e
      · exact e
      · rcases List.mem_cons.mp (p.mem_iff.mpr List.mem_cons_self) with e' | e'
        · exact e'.symm
        · exact anti _ _ (h.1 y e') (h'.1 x e)
    subst e
    rw [perm_uniq anti h.2 h'.2 (List.Perm.cons_inv p)]
end
def leS (x y : Str) : Bool := !ltCps y.cps.toList x.cps.toList
def leZ (x y : Int) : Bool := decide (x ≤ y)
theorem leS_iff (x y : Str) : leS x y = true ↔ x.cps.toList ≤ y.cps.toList := by
  unfold leS
  rw [ltCps_eq]
  simp
theorem leS_tot (x y : Str) : leS x y = true ∨ leS y x = true := by
  rw [leS_iff, leS_iff]; exact List.le_total _ _
theorem leS_tr (x y z : Str) (h : leS x y = true) (h' : leS y z = true) : leS x z = true := by
  rw [leS_iff] at *; exact List.le_trans h h'
theorem leS_anti (x y : Str) (h : leS x y = true) (h' : leS y x = true) : x = y := by
  rw [leS_iff] at *
  have := List.le_antisymm h h'
  cases x; cases y
  simp at this
  rw [this]
theorem rising_pw : ∀ (x : Str) (r : List Str), risingS x r = true → (x :: r).Pairwise (fun a b => leS a b = true)
  | x, [], _ => List.pairwise_singleton ..
  | x, y :: r, h => by
    have h' : (!ltCps y.cps.toList x.cps.toList && risingS y r) = true := h
    rw [Bool.and_eq_true] at h'
    have ih := rising_pw y r h'.2
    refine List.pairwise_cons.mpr ⟨fun z hz => ?_, ih⟩
    rcases List.mem_cons.mp hz with e | e
    · rw [e]; exact h'.1
    · exact leS_tr _ _ _ h'.1 ((List.pairwise_cons.mp ih).1 z e)
theorem sortedS_pw {l : List Str} (h : sortedS l = true) : l.Pairwise (fun a b => leS a b = true) := by
  cases l with
  | nil => exact .nil
  | cons x r => exact rising_pw x r h
def strsD : List D → Option (List Str)
  | [] => some []
  | .str x :: r => (match strsD r with | some l => some (x :: l) | none => none)
  | _ :: _ => none
def intsD : List D → Option (List Int)
  | [] => some []
  | .int x :: r => (match intsD r with | some l => some (x :: l) | none => none)
  | _ :: _ => none
theorem strsD_ok {K : PySem.W.Frag} {W : Wd} {dr : Option Addr} {F : Hp} : ∀ {vs : List V} {ds : List D} {l : List Str}, Dens K W dr F vs ds → strsD ds = some l → vs = l.map V.str
  | _, _, _, .nil, h => by cases h; rfl
  | _, d :: ds, _, .cons h1 h2, h => by
    unfold strsD at h
    split at h
    · rename_i e
      cases e
    · rename_i x r e
      cases e
      split at h
      · rename_i l q
        cases h
        cases h1
        rw [strsD_ok h2 q]; rfl
      · cases h
    · cases h
theorem intsD_ok {K : PySem.W.Frag} {W : Wd} {dr : Option Addr} {F : Hp} : ∀ {vs : List V} {ds : List D} {l : List Int}, Dens K W dr F vs ds → intsD ds = some l → vs = l.map V.int
  | _, _, _, .nil, h => by cases h; rfl
  | _, d :: ds, _, .cons h1 h2, h => by
    unfold intsD at h
    split at h
    · rename_i e
      cases e
    · rename_i x r e
      cases e
      split at h
      · rename_i l q
        cases h
        cases h1
        rw [intsD_ok h2 q]; rfl
      · cases h
    · cases h
def dSorted : List D → Option D
  | [.lst ds] => (match strsD ds with
    | some l => if l.length < 64 then some (.lst ((srt leS l).map .str)) else none
    | none => (match intsD ds with
      | some l => some (.lst ((srt leZ l).map .int))
      | none => none))
  | _ => none
section
variable {X : Cx} {W : Wd}
theorem dens_ints {K : PySem.W.Frag} {dr : Option Addr} {F : Hp} : ∀ ys : List Int, Dens K W dr F (ys.map V.int) (ys.map D.int)
  | [] => .nil
  | y :: ys => .cons (.int y) (dens_ints ys)
theorem call_sortedA : CallR X (.builtin "sorted") (fun xs H Q => rSortedS X.K xs H Q ∨ rSortedI X.K xs H Q) := cr_sortedS.or cr_sortedI
theorem q_sorted {K : PySem.W.Frag} : CallD K W (fun xs H Q => rSortedS K xs H Q ∨ rSortedI K xs H Q) dSorted := by
  intro fr F H σ ρ n xs d vs Q R dx h k
  unfold dSorted at h
  split at h
  · rename_i ds
    cases dx with
    | cons h1 h2 =>
      cases h2
      cases h1 with
      | lst h3 h4 =>
        split at h
        · rename_i l q
          split at h
          · rename_i hl
            cases h
            have e := strsD_ok h4 q
            subst e
            refine .inl ⟨_, l, rfl, SqL.of (R.core.sub _ _ h3), hl, fun ys p hp hs hn => ?_⟩
            have e : ys = srt leS l := perm_uniq leS_anti (sortedS_pw hs) (srt_sorted leS_tot leS_tr l) (hp.trans (srt_perm leS l).symm)
            rw [e]
            exact put_lst R (dens_strs _) k p hn
          · cases h
        · split at h
          · rename_i l q
            cases h
            have e := intsD_ok h4 q
            subst e
            refine .inr ⟨_, l, rfl, SqL.of (R.core.sub _ _ h3), fun ys p hp hs hn => ?_⟩
            have e : ys = srt leZ l := perm_uniq (R := fun a b : Int => leZ a b = true) (fun x y h h' => by have a := of_decide_eq_true h; have b := of_decide_eq_true h'; omega) (hs.imp fun h => decide_eq_true h) (srt_sorted (fun x y => by unfold leZ; simp; omega) (fun x y z h h' => by have a := of_decide_eq_true h; have b := of_decide_eq_true h'; exact decide_eq_true (by omega)) l) (hp.trans (srt_perm leZ l).symm)
            rw [e]
            exact put_lst R (dens_ints _) k p hn
          · cases h
  · cases h
end
end DL
end

section
set_option Elab.async false
set_option linter.all false
set_option autoImplicit false
set_option maxRecDepth 100000
namespace DL
open PySem PySem.Spec L2 PyProof.Rows
section
variable {X : Cx} {W : Wd} {a : Addr}
theorem call_list_kd {es : Array DictEntry} {n : Nat} {ks : List Str} (hc : X.calm = true) (D : KDict X.K X.w a es n) (hk : es.toList.map He.keyOf = He.keysIn X.w.params ks) (hz : ks.length ≤ 1000) :
    CallR X (.type "list") (fun xs H Q => xs = [.ref a] ∧ ∀ q, H q = none → Q (.ref q) (upd H q (.lst (ks.map V.str)))) := by
  intro pins s σ H xs us Q I r h
  obtain ⟨e, q⟩ := h
  subst e
  obtain ⟨u, eu, rx⟩ := vals1 r
  subst eu
  obtain rfl : u = Value.ref a := rx
  have hat := I.kIn _ _ D.at_
  have hl : es.size = ks.length := by
    have := congrArg List.length hk
    rw [List.length_map] at this
    unfold He.keysIn at this
    rw [List.length_map] at this
    simpa using this
  refine PySem.W.kdl_call (kdl_raw (o := ⟨.type "dict", none, .dict es n, #[]⟩) D.low ⟨rfl, rfl, rfl⟩ rfl) (I.ok.hd hc) hat (by rw [sizeLine_eq]; omega) fun h' tk acc' c' hkeep hS hacc => ?_
  refine ⟨.ref s.heap.objs.size, upd H s.heap.objs.size (.lst (ks.map V.str)), I.laid hkeep (Nat.le_refl _) (show ObjOk X.prog X.w _ _ _ (.lst (ks.map V.str)) from ⟨?_, acc'.toList, c', ?_, ?_⟩), rfl, q _ (I.hok.fresh (Nat.le_refl _))⟩
  · rw [List.length_map, sizeLine_eq]; omega
  · have el : acc'.toList.length = acc'.size := by simp
    refine vals_of_at (by rw [List.length_map, el, hacc.1, hl]) fun j x w h1 h2 => ?_
    obtain ⟨en, hen, hw⟩ := hacc.2 j w (by rw [← Array.getElem?_toList]; exact h2)
    have e1 : (es.toList.map He.keyOf)[j]? = some (He.keyOf en) := by
      rw [List.getElem?_map, Array.getElem?_toList, hen]; rfl
    rw [hk] at e1
    unfold He.keysIn at e1
    rw [List.getElem?_map] at h1 e1
    cases z : ks[j]? with
    | none => rw [z] at h1; cases h1
    | some k =>
      rw [z] at h1 e1
      cases h1
      have e2 : some (k, PyData.keyHash X.w.params k) = He.keyOf en := by injection e1
      unfold He.keyOf at e2
      split at e2
      · rename_i x t hx
        injection e2 with e2
        injection e2 with e2 e3
        subst hw
        exact ⟨t, by rw [hx, e2]⟩
      · cases e2
  · rw [Array.toArray_toList]; exact hS
/-- the table and its keys in their order -/
structure KTabs (K : PySem.W.Frag) (w : World) (W : Wd) (a : Addr) (tbl : List (Str × D)) : Prop extends KTab K w W a tbl where
  ord : ∃ (es : Array DictEntry) (n : Nat), KDict K w a es n ∧ es.toList.map He.keyOf = He.keysIn w.params (tbl.map (·.1))
  few : tbl.length ≤ 1000
theorem ktabs_of {K : PySem.W.Frag} {w : World} {W : Wd} {a : Addr} {tbl : List (Str × D)} (h1 : He.dicW K a = some (He.keysIn w.params (tbl.map (·.1)))) (h2 : tabDB K a tbl = true) (h3 : decide (tbl.length ≤ 1000) = true) : KTabs K w W a tbl := by
  refine ⟨ktab_of h1 h2, ?_, of_decide_eq_true h3⟩
  obtain ⟨es, n, T⟩ := He.dicW_ok h1
  refine ⟨es, n, T, ?_⟩
  unfold He.dicW at h1
  rw [T.at_] at h1
  simp [T.low] at h1
  exact h1
theorem d_lstK {x : Str} {tbl : List (Str × D)} {p p2 pos : Pos} (hc : X.calm = true) (T : KTabs X.K X.w W a tbl) (hgf : Gl X "list") (hmf : X.mg "list" = none) (hg : Gl X x) (hm : X.mg x = some (.ref a)) (hd : (x == ("__debug__" : Str)) = false := by decide)
    (he : starEach [.Name x p2] X.env = (false, eval (.Name x p2) X.env) :: starEach [] X.env := by rfl) (hpl : (backTo pos (starEach [] X.env)).any (·.1) = false := by rfl) :
    PD X W (.Call (.Name "list" p) [.Name x p2] [] pos) (eC (.lst (tbl.map fun q => .str q.1))) := by
  obtain ⟨es, n, kd, hk⟩ := T.ord
  refine imp_E (pe_callTy (call_list_kd hc kd hk (by rw [List.length_map]; exact T.few)) hgf hmf rfl (pa_cons (pe_glob (v := .ref a) hg hm rfl hd) pa_nil he) (by decide) (by decide) he hpl) fun σ H Q ⟨fr, F, ρ, n, r, n', R, ev, k⟩ => ?_
  rcases r with z | d
  · exact (M.pure_err ev).elim
  obtain ⟨h1, h2⟩ := M.pure_ok ev
  subst h1 h2
  refine ⟨rfl, put_lst R ?_ k⟩
  have := dens_strs (K := X.K) (W := W) (dr := fr.dr) (F := F) (tbl.map (·.1))
  have e : (tbl.map fun q => DL.D.str q.1) = (tbl.map (·.1)).map DL.D.str := by rw [List.map_map]; rfl
  rw [e]
  exact this
/-- the same, where the dict stands is not told -/
def Tab (K : PySem.W.Frag) (w : World) (W : Wd) (mg : Str → Option Value) (x : Str) (tbl : List (Str × D)) : Prop := ∃ a : Addr, mg x = some (.ref a) ∧ KTabs K w W a tbl
theorem d_inT {x : Str} {tbl : List (Str × D)} {e : Expr} {f : EX} {p pos : Pos} (T : Tab X.K X.w W X.mg x tbl) (hg : Gl X x) (he : PD X W e f) (hd : (x == ("__debug__" : Str)) = false := by decide) (hb : behindInMarks .In (.Name x p) = false := by rfl) : PD X W (.Compare e [.In] [.Name x p] pos) (e1 (dInK tbl) f) :=
  T.elim fun a h => d_inK h.2.toKTab hg h.1 he hd hb
theorem d_niT {x : Str} {tbl : List (Str × D)} {e : Expr} {f : EX} {p pos : Pos} (T : Tab X.K X.w W X.mg x tbl) (hg : Gl X x) (he : PD X W e f) (hd : (x == ("__debug__" : Str)) = false := by decide) (hb : behindInMarks .NotIn (.Name x p) = false := by rfl) : PD X W (.Compare e [.NotIn] [.Name x p] pos) (e1 (dNiK tbl) f) :=
  T.elim fun a h => d_niK h.2.toKTab hg h.1 he hd hb
theorem d_ixT {x : Str} {tbl : List (Str × D)} {e : Expr} {f : EX} {p pos : Pos} (T : Tab X.K X.w W X.mg x tbl) (hg : Gl X x) (he : PD X W e f) (hd : (x == ("__debug__" : Str)) = false := by decide) (hs : PlainIx e := by exact fun _ _ => rfl) : PD X W (.Subscript (.Name x p) e pos) (e1 (dIxK tbl) f) :=
  T.elim fun a h => d_ixK h.2.toKTab hg h.1 he hd hs
theorem d_lstT {x : Str} {tbl : List (Str × D)} {p p2 pos : Pos} (hc : X.calm = true) (T : Tab X.K X.w W X.mg x tbl) (hgf : Gl X "list") (hmf : X.mg "list" = none) (hg : Gl X x) (hd : (x == ("__debug__" : Str)) = false := by decide)
    (he : starEach [.Name x p2] X.env = (false, eval (.Name x p2) X.env) :: starEach [] X.env := by rfl) (hpl : (backTo pos (starEach [] X.env)).any (·.1) = false := by rfl) :
    PD X W (.Call (.Name "list" p) [.Name x p2] [] pos) (eC (.lst (tbl.map fun q => .str q.1))) :=
  T.elim fun a h => d_lstK hc h.2 hgf hmf hg h.1 hd he hpl
end
end DL
namespace DL
open PySem PySem.Spec L2
theorem d_cint {X : Cx} {W : Wd} {x : Str} {pos : Pos} {i : Int} (hg : Gl X x) (h : ∃ t, X.mg x = some (.int i t)) (hd : (x == ("__debug__" : Str)) = false := by decide) : PD X W (.Name x pos) (eC (.int i)) :=
  h.elim fun t e => d_glob (v := .int i) hg e ⟨t, rfl⟩ (fun _ _ _ _ => .int _) hd
end DL
end

section
set_option Elab.async false
set_option linter.all false
set_option autoImplicit false
set_option maxRecDepth 100000
namespace DL
open PySem PySem.Spec L2 PyProof.Rows
def dIntA : List D → Option D
  | [.str a] => (match PySem.intText? a with
    | some n => if a.length ≤ 640 then some (.int n) else none
    | none => none)
  | xs => dInt xs
section
variable {X : Cx} {W : Wd}
def rIntT : List V → Hp → VK → Prop := fun xs H Q => ∃ a n, xs = [.str a] ∧ PySem.intText? a = some n ∧ a.length ≤ 640 ∧ Q (.int n) H
theorem call_intA : CallR X (.type "int") (fun xs H Q => ((∃ i, xs = [.int i] ∧ Q (.int i) H) ∨ ∃ k, xs = [.bl k] ∧ Q (.int (if k then 1 else 0)) H) ∨ rIntT xs H Q) := call_int1.or call_int_str
theorem q_intA {K : PySem.W.Frag} : CallD K W (fun xs H Q => ((∃ i, xs = [.int i] ∧ Q (.int i) H) ∨ ∃ k, xs = [.bl k] ∧ Q (.int (if k then 1 else 0)) H) ∨ rIntT xs H Q) dIntA := by
  intro fr F H σ ρ n xs d vs Q R dx h k
  unfold dIntA at h
  split at h
  · rename_i a
    cases q : PySem.intText? a with
    | none => rw [q] at h; cases h
    | some m =>
      rw [q] at h
      have h : (if a.length ≤ 640 then some (D.int m) else none) = some d := h
      split at h
      · rename_i hl
        cases h
        cases dx with
        | cons h1 h2 => cases h2; cases h1; exact .inr ⟨a, m, rfl, q, hl, k F H _ R (Sub.refl _) (.int _)⟩
      · cases h
  · exact .inl (q_int fr F H σ ρ n xs d vs Q R dx h k)
end
end DL
end

section
set_option Elab.async false
set_option linter.all false
set_option autoImplicit false
set_option maxRecDepth 100000
set_option maxHeartbeats 1000000
namespace DL
open PySem PySem.Spec L2
/-! ### exceptions -/
/-- an own class of exceptions without __init__ -/
structure XCls (K : PySem.W.Frag) (mg : Str → Option Value) (x : Str) (C : Addr) : Prop where
  base : PySem.W.excIn K C [.type "ValueError", .type "Exception", .type "BaseException", .type "object"] "ValueError.__new__" = true
  g : mg x = some (.ref C)
  kp : PySem.W.keepIn K (.ref C) = true
  sub : PySem.W.subIn K (.ref C) (.type "BaseException") = some true
  ty : PySem.W.typeIn K (.ref C) = some (.type "type")
section
variable {X : Cx} {W : Wd}
/-- raise C('..') -/
def sRaise (c : Nat) : SX := fun _ n => some (.error ⟨c, [], []⟩, n)
theorem S_raise {c : Nat} {x m : Str} {j : Nat} {p p2 pos pos' : Pos} (hc : X.calm = true) (F : XCls X.K X.mg x (W.cl c)) (hg : Gl X x) (hdb : (x == ("__debug__" : Str)) = false := by decide) : PDS X W (.Raise (some (.Call (.Name x p) [.Constant (.str m) j p2] [] pos)) none pos') (sRaise c) :=
  imp_S (ps_raise hc takesAcc (pmk_own PySem.F.excBase_ValueError F.base F.g F.kp (raises_own F.sub F.ty) hg hdb)) fun E σ H ⟨fr, G, ρ, n, r, n', R, e, k⟩ => by
    unfold sRaise at e
    cases e
    exact k G H σ _ _ R.core (Sub.refl _) ⟨rfl, .inl ⟨rfl, rfl, rfl⟩⟩
/-- a statement that lets its errors out at the slots as they were -/
def tSx (X : Cx) (W : Wd) (g : SX) : TS := fun E σ H => ∃ fr F ρ n r n', Rel X.K W fr F H σ ρ n ∧ g ρ n = some (r, n') ∧ Res (fun o => OutK X.K W fr F E o n') (KX X W fr F σ ρ n') r
theorem S_retX {e : Expr} {f : EX} {pos : Pos} (he : PD X W e f) : PS X (.Return (some e) pos) (tSx X W (sRet f)) := imp_S (ps_ret he) fun E σ H ⟨fr, F, ρ, n, r, n', R, e, k⟩ => by
  rcases r with z | o
  · exact R.dE e k fun _ _ _ _ _ _ h _ _ _ => (M.pure_err h).elim
  obtain ⟨x, n1, e1, h⟩ := M.bind_ok e
  obtain ⟨h1, h2⟩ := M.pure_ok h
  subst h1 h2
  exact ⟨fr, F, ρ, n, .ok x, _, R, e1, fun F1 H1 v R1 s1 d1 => k F1 H1 v R1.core s1 d1⟩
theorem S_expX {e : Expr} {f : EX} {pos : Pos} (he : PD X W e f) (hs : swapsWith e none pos.line X.env = pure false := by rfl) : PS X (.Expr e pos) (tSx X W (sExp f)) := imp_S (ps_expr he hs) fun E σ H ⟨fr, F, ρ, n, r, n', R, e, k⟩ => by
  rcases r with z | o
  · exact R.dE e k fun _ _ _ _ _ _ h _ _ _ => (M.pure_err h).elim
  obtain ⟨x, n1, e1, h⟩ := M.bind_ok e
  obtain ⟨h1, h2⟩ := M.pure_ok h
  subst h1 h2
  exact ⟨fr, F, ρ, n, .ok x, _, R, e1, fun F1 H1 v R1 s1 d1 => k F1 H1 σ R1 s1⟩
/-- x = e -/
theorem S_asgX {tg e : Expr} {f : EX} {t : TG} {g : GX} {pos : Pos} (he : PD X W e f) (ht : PG X tg t) {is : List Nat} (hg : GOk X.K W t g is) (hs : swapsWithSole [tg] e pos.line X.env = pure false := by rfl) (hw : swappedStores [tg] e X.env = pure none := by rfl)
    (h1 : (assignEach [tg] X.env).map (·.2) = [assign tg X.env] := by rfl) : PS X (.Assign [tg] e pos) (tSx X W (sAsg g f)) := imp_S (ps_asg he ht hs hw h1) fun E σ H ⟨fr, F, ρ, n, r, n', R, e, k⟩ => by
  rcases r with z | o
  · refine R.dE e k fun _ _ _ _ _ _ h _ _ _ => ?_
    rcases M.bind_err h with h | ⟨_, _, _, h⟩
    · exact (M.opt_err h).elim
    · exact (M.pure_err h).elim
  obtain ⟨x, n1, e1, ha⟩ := M.bind_ok e
  obtain ⟨ρ', n2, e2, h⟩ := M.bind_ok ha
  obtain ⟨h1, h2⟩ := M.pure_ok h
  obtain ⟨h3, h4⟩ := M.opt_ok e2
  clear ha h
  subst h4
  subst h1 h2
  exact ⟨fr, F, ρ, n, .ok x, _, R, e1, fun F1 H1 v R1 s1 d1 => hg fr F1 H1 σ ρ ρ' _ v x _ R1 d1 h3 fun σ' R' _ => k F1 H1 σ' R' s1⟩
/-- behind a body that hands its ends to the rest: x = e; return .. (the rest raises nothing) -/
def sSeqX (g h : SX) : SX := fun ρ => M.bind (g ρ) fun o => match o with
  | .nx ρ' => M.calm (h ρ')
  | .bk ρ' => M.pure (.bk ρ')
  | .ct ρ' => M.pure (.ct ρ')
  | .ret d => M.pure (.ret d)
theorem S_consX {st : Stmt} {r : List Stmt} {g h : SX} (hg : PS X st (tSx X W g)) (hh : PDSs X W r h) : PSs X (st :: r) (tSx X W (sSeqX g h)) := imp_Ss (pss_cons hg hh) fun E σ H ⟨fr, F, ρ, n, r, n', R, e, k⟩ => by
  rcases M.bind_any e with ⟨z, e1, rfl⟩ | ⟨o1, n1, e1, h⟩
  · exact ⟨fr, F, ρ, n, .error z, n', R, e1, k⟩
  refine ⟨fr, F, ρ, n, .ok o1, n1, R, e1, ?_⟩
  cases o1 with
  | nx ρ1 =>
    rcases r with z | o
    · exact (M.calm_err h).elim
    · exact fun F1 H1 σ1 R1 s1 => ⟨fr, F1, ρ1, n1, .ok o, n', R1, M.calm_ok h, OutK.mono s1 k⟩
  | bk ρ1 =>
    obtain ⟨h1, h2⟩ := M.pure_any h
    subst h1 h2
    exact k
  | ct ρ1 =>
    obtain ⟨h1, h2⟩ := M.pure_any h
    subst h1 h2
    exact k
  | ret d =>
    obtain ⟨h1, h2⟩ := M.pure_any h
    subst h1 h2
    exact k
theorem S_oneX {st : Stmt} {g : SX} (h : PS X st (tSx X W g)) : PSs X [st] (tSx X W g) := pss_one h
/-- what raises nothing -/
def tSk (K : PySem.W.Frag) (W : Wd) (g : SX) : TS := fun E σ H => ∃ fr F ρ n o n', Rel K W fr F H σ ρ n ∧ g ρ n = some (.ok o, n') ∧ OutK K W fr F E o n'
theorem sk {st : List Stmt} {g : SX} (h : PDSs X W st g) : PSs X st (tSk X.K W g) := imp_Ss h fun E σ H ⟨fr, F, ρ, n, o, n', R, e, k⟩ => ⟨fr, F, ρ, n, .ok o, n', R, e, k⟩
/-- a body's wish about exceptions by a wish at the slots -/
def tSW (K : PySem.W.Frag) (W : Wd) (Wx : WX) (g : SX) : TS := fun E σ H => ∃ fr F ρ n r n', Rel K W fr F H σ ρ n ∧ g ρ n = some (r, n') ∧ Res (fun o => OutK K W fr F E o n') (fun z => ∀ F' H' cls d, Rel K W fr F' H' σ ρ n' → Sub F F' → XDen K W fr.dr F' H' z cls d → Wx cls d σ H') r
theorem sw_of {st : List Stmt} {g : SX} {Wx : WX} (tk : Takes X Wx) (h : PSs X st (tSx X W g)) : PSs X st (tSW X.K W Wx g) := imp_Ss h fun E σ H ⟨fr, F, ρ, n, r, n', R, e, k⟩ => by
  rcases r with z | o
  · exact ⟨fr, F, ρ, n, .error z, n', R, e, fun F' H' cls d R' s' x => Acc.of tk (k F' H' cls d R' s' x)⟩
  · exact ⟨fr, F, ρ, n, .ok o, n', R, e, k⟩
/-- try: g except c: h; m: which classes the clause takes -/
def sTry (m : Nat → Option Bool) (g h : SX) : SX := fun ρ n => match g ρ n with
  | some (.error z, n1) => (match m z.c with
    | some true => M.calm (h ρ) n1
    | some false => some (.error z, n1)
    | none => none)
  | r => r
theorem S_try {x : Str} {c : Value} {body suite : List Stmt} {b₀ : Stmt} {np pos pos' : Pos} {m : Nat → Option Bool} {g h : SX} (hs : X.stack = X.env :: X.outer) (hf : X.env.frame = some X.env.locals) (hc : Names X x c) (hm : ∀ i b, m i = some b → PySem.W.exmOne X.K (.ref (W.cl i)) c = some b)
    (hb : ∀ (pn : List (Addr × Obj)) (xe : Value → Shared → Prop), PassesOwn (model X.prog X.w) X.A X.env xe → PSs (X.tr pn xe) body (tSx (X.tr pn xe) W g))
    (hsu : ∀ (a : Addr) (pn : List (Addr × Obj)), PDSs (X.suite a pn) W (b₀ :: suite) h) :
    PDS X W (.Try body [.ExceptHandler (some (.Name x np)) none (b₀ :: suite) pos'] [] [] pos) (sTry m g h) :=
  imp_S (ps_try_only (Wout := Acc X) (tb := fun Wx => tSW X.K W Wx g) (ts := fun _ _ _ => tSk X.K W h) hs hf hc takesAcc (fun Wx pn xe tk po => sw_of tk (hb pn xe po)) fun a oe cls d pn _ _ => sk (hsu a _)) fun E σ H ⟨fr, F, ρ, n, r, n', R, e, k⟩ => by
    unfold sTry at e
    split at e
    · rename_i z n1 eg
      refine ⟨fr, F, ρ, n, .error z, n1, R, eg, fun F1 H1 cls d R1 s1 x => ?_⟩
      have ec : cls = .ref (W.cl z.c) := x.1
      split at e
      · rename_i hz
        rcases r with z' | o
        · exact (M.calm_err e).elim
        · exact ⟨true, by rw [ec]; exact hm _ _ hz, fun _ _ _ => ⟨fr, F1, ρ, n1, o, n', R1, M.calm_ok e, OutK.mono s1 k⟩, fun q => nomatch q⟩
      · rename_i hz
        cases e
        exact ⟨false, by rw [ec]; exact hm _ _ hz, (fun q => nomatch q), fun _ => k F1 H1 σ cls d R1.core s1 x⟩
      · cases e
    · rename_i hne
      rcases r with z | o
      · exact absurd e (hne z n')
      · exact ⟨fr, F, ρ, n, .ok o, n', R, e, k⟩
end
end DL
end

section
set_option Elab.async false
set_option linter.all false
set_option autoImplicit false
set_option maxRecDepth 100000
set_option maxHeartbeats 1000000
namespace DL
open PySem PySem.Spec L2
open PyProof.Rows (UnaryOp_ isTrue_plain not_of)
/-- nothing is let out -/
theorem passN {X : Cx} : Passes (L2.CX X.prog X.w) X E0 := fun _ _ _ _ _ _ _ ⟨_, _, _, _, _, _, _, _, _, _, _, _, z⟩ => z.elim
/-! ### own operators -/
def isC (c : Nat) : D → Bool
  | .obj c' _ _ => decide (c' = c)
  | _ => false
theorem isC_of {K : PySem.W.Frag} {W : Wd} {dr : Option Addr} {F H : Hp} {c : Nat} {v : V} {d : D} (s : Sub F H) (h : Den K W dr F v d) (e : isC c d = true) : ∃ p dx fs, v = .ref p ∧ H p = some (.ins (W.cl c) dx fs) := by
  unfold isC at e
  split at e
  · have e := of_decide_eq_true e
    subst e
    cases h with
    | obj l hF hd => exact ⟨_, _, _, rfl, s _ _ hF⟩
  · cases e
theorem relV_ni {v : V} (r : RelV v .notImplemented) : False := by
  cases v with
  | int i => obtain ⟨t, q⟩ := r; cases q
  | str i => obtain ⟨t, q⟩ := r; cases q
  | byt i => obtain ⟨t, q⟩ := r; cases q
  | flt i => obtain ⟨t, q⟩ := r; cases q
  | _ => cases r
theorem cmpBack_of {v : V} {u : Value} {s : Shared} {Q : Value → Shared → Prop} (r : RelV v u) (q : Q u s) : PySem.W.CmpBack Q u s := by
  unfold PySem.W.CmpBack
  split
  · exact relV_ni r
  · exact q
section
variable {X : Cx} {W : Wd} {c k : Nat} {m : Str} {pos : Pos} {a b : Expr} {fa fb : EX} {fx : FX}
/-- a op b by an own method -/
def eOwn2 (c : Nat) (fx : FX) (fa fb : EX) : EX := fun ρ => M.bind (fa ρ) fun x => M.bind (fb ρ) fun y => if isC c x && isC c y then fx [x, y] else M.opt none
theorem d_own2 {op : Operator} (F : CalM X.prog X.w X.K X.mg X.base (W.cl c) (PySem.dunder op.info.2) k (spD X.K W fx 2)) (hr : Room k X.A) (hc : PySem.W.selfFirst X.K (W.cl c) = true) (ha : PD X W a fa) (hb : PD X W b fb) :
    PD X W (.BinOp a op b pos) (eOwn2 c fx fa fb) := by
  obtain ⟨f, fd, ps, F, hm, hbd⟩ := F
  constructor
  intro pins s σ H Q I ⟨fr, G, ρ, n, r, n', R, e, kk⟩
  refine wpAny_BinOp (binT ha hb (R := fun x y H2 => spD X.K W fx 2 [x, y] H2 Q (EA X σ) ∧ (∃ p dx fs, x = .ref p ∧ H2 p = some (.ins (W.cl c) dx fs)) ∧ ∃ p dx fs, y = .ref p ∧ H2 p = some (.ins (W.cl c) dx fs)) I ?_ ?_)
  · rcases M.bind_any e with ⟨z, e1, rfl⟩ | ⟨x, n1, e1, h⟩
    · exact ⟨fr, G, ρ, n, .error z, n', R, e1, kk⟩
    refine ⟨fr, G, ρ, n, .ok x, n1, R, e1, fun F1 H1 v R1 s1 d1 => ?_⟩
    rcases M.bind_any h with ⟨z, e2, rfl⟩ | ⟨y, n2, e2, h2⟩
    · exact ⟨fr, F1, ρ, n1, .error z, n', R1, e2, KX.mono kk s1⟩
    refine ⟨fr, F1, ρ, n1, .ok y, n2, R1, e2, fun F2 H2 u R2 s2 d2 => ?_⟩
    split at h2
    · rename_i q
      rw [Bool.and_eq_true] at q
      have d1' := d1.mono (dr' := fr.dr) s2 fun _ z => z
      exact ⟨callee_back (F := G) rfl R2 (s1.trans s2) (.cons d1' (.cons d2 .nil)) h2 kk, isC_of R2.core.sub d1' q.1, isC_of R2.core.sub d2 q.2⟩
    · obtain ⟨_, q⟩ := M.opt_any h2
      cases q
  · rintro v u s2 x y H2 I2 rx ry ⟨sp, ⟨p, dx, fs, rfl, hp⟩, q, dy, gs, rfl, hq⟩
    have ev : v = Value.ref p := rx
    have eu : u = Value.ref q := ry
    subst ev eu
    obtain ⟨mA, J, _⟩ := ins_get I2.hok hp
    obtain ⟨mB, J', _⟩ := ins_get I2.hok hq
    obtain ⟨od, J, _⟩ := J.look
    obtain ⟨od', J', _⟩ := J'.look
    obtain ⟨mm, hF⟩ := I2.fr
    refine PySem.W.binop_K hF I2.ok.mod.kin J J'.type hc hm.at_ hm.fn (thn (run_fnS (us := [.ref p, .ref q]) F hr hbd passEA I2 (.cons rx (.cons ry .nil)) sp) ?_)
    rintro w s3 ⟨z, H3, I3, rz, qz⟩
    exact cmpBack_of rz ⟨z, H3, I3, rz, qz⟩
/-! ### comparisons, truth, attributes that raise nothing -/
def e2M (op : D → D → M D) (fa fb : EX) : EX := fun ρ => M.bind (fa ρ) fun x => M.bind (fb ρ) fun y => M.calm (op x y)
def Op2M (K : PySem.W.Frag) (W : Wd) (r : R2) (op : D → D → M D) : Prop := ∀ (fr : Fr) (F H : Hp) (σ : St) (ρ : Env) (n n' : Int) (x y d : D) (v u : V) (Q : VK), Rel K W fr F H σ ρ n → Den K W fr.dr F v x → Den K W fr.dr F u y → op x y n = some (.ok d, n') →
  (∀ F' H' w, Rel K W fr F' H' σ ρ n' → Sub F F' → Den K W fr.dr F' w d → Q w H') → r v u H Q
theorem d_tOpM {r : R2} {op : D → D → M D} (hd : Op2M X.K W r op) {σ : St} {H : Hp} {Q : VK} (h : tD X W (e2M op fa fb) σ H Q) : tOp r (tD X W fa) (tD X W fb) σ H Q := by
  obtain ⟨fr, F, ρ, n, r, n', R, e, k⟩ := h
  rcases M.bind_any e with ⟨z, e1, rfl⟩ | ⟨x, n1, e1, h⟩
  · exact ⟨fr, F, ρ, n, .error z, n', R, e1, k⟩
  refine ⟨fr, F, ρ, n, .ok x, n1, R, e1, fun F1 H1 v R1 s1 d1 => ?_⟩
  rcases M.bind_any h with ⟨z, e2, rfl⟩ | ⟨y, n2, e2, h2⟩
  · exact ⟨fr, F1, ρ, n1, .error z, n', R1, e2, KX.mono k s1⟩
  refine ⟨fr, F1, ρ, n1, .ok y, n2, R1, e2, fun F2 H2 u R2 s2 d2 => ?_⟩
  rcases r with z | d
  · exact (M.calm_err h2).elim
  · exact hd fr F2 H2 σ ρ _ _ x y d v u Q R2 (d1.mono s2 fun _ z => z) d2 (M.calm_ok h2) fun F3 H3 w R3 s3 d3 => k F3 H3 w R3 ((s1.trans s2).trans s3) d3
theorem d_cmpM {o : CmpOp} {r : R2} {op : D → D → M D} (ho : OpR X (compareOp o) r) (hd : Op2M X.K W r op) (ha : PD X W a fa) (hb : PD X W b fb) (hm : behindInMarks o b = false) : PD X W (.Compare a [o] [b] pos) (e2M op fa fb) := imp_E (pe_cmpR ho ha hb hm) fun _ _ _ h => d_tOpM hd h
theorem t_cmpM {o : CmpOp} {r : R2} {op : D → D → M D} (ho : OpR X (compareOp o) r) (hd : Op2M X.K W r op) (ha : PD X W a fa) (hb : PD X W b fb) (hm : behindInMarks o b = false) : PDT X W (.Compare a [o] [b] pos) (tB (e2M op fa fb)) := imp_T (pt_cmpR ho ha hb hm) fun σ H Q h => t_test (fun _ _ _ => d_tOpM hd) h
/-- a method that is asked and raises nothing -/
theorem spD_ok {K : PySem.W.Frag} {mm : Nat} {fr : Fr} {F H : Hp} {σ : St} {ρ : Env} {n n' : Int} {ds : List D} {vs : List V} {d : D} {Q : VK} {E : XK} (hl : ds.length = mm) (R : Rel K W fr F H σ ρ n) (dd : Dens K W fr.dr F vs ds) (h : fx ds n = some (.ok d, n'))
    (k : ∀ F' H' w, Rel K W fr F' H' σ ρ n' → Sub F F' → Den K W fr.dr F' w d → Q w H') : spD K W fx mm vs H Q E :=
  ⟨by rw [dd.length]; exact hl, fr, F, n, ds, .ok d, n', R.core, dd, h, fun F2 H2 v c2 d2 => k F2 H2 v (R.back c2) c2.f0 d2⟩
def rOwn (K : PySem.W.Frag) (W : Wd) (c : Nat) (fx : FX) : R2 := fun x y H Q => (∃ p dx fs, x = .ref p ∧ H p = some (.ins (W.cl c) dx fs)) ∧ (∃ p dx fs, y = .ref p ∧ H p = some (.ins (W.cl c) dx fs)) ∧ spD K W fx 2 [x, y] H Q E0
def mOwn (c : Nat) (fx : FX) (x y : D) : M D := if isC c x && isC c y then fx [x, y] else M.opt none
theorem q_own {K : PySem.W.Frag} : Op2M K W (rOwn K W c fx) (mOwn c fx) := by
  intro fr F H σ ρ n n' x y d v u Q R dx dy h k
  unfold mOwn at h
  split at h
  · rename_i q
    rw [Bool.and_eq_true] at q
    exact ⟨isC_of R.core.sub dx q.1, isC_of R.core.sub dy q.2, spD_ok rfl R (.cons dx (.cons dy .nil)) h k⟩
  · cases (M.opt_ok h).1
/-- a == b by an own __eq__ -/
theorem o_ownCmp {o : CmpOp} {x : Str} (hu : X.A.units < cLine) (F : CalM X.prog X.w X.K X.mg X.base (W.cl c) x k (spD X.K W fx 2)) (hr : Room k X.A) (ho : (cmpInfo o).2.1 = x) (hcmp : ∀ v u, compareOp o v u = richCompare o v u) : OpR X (compareOp o) (rOwn X.K W c fx) := by
  obtain ⟨f, fd, ps, F, hm, hbd⟩ := F
  rintro pins s σ H x y v u Q I rx ry ⟨⟨p, dx, fs, rfl, hp⟩, ⟨q, dy, gs, rfl, hq⟩, sp⟩
  have ev : v = Value.ref p := rx
  have eu : u = Value.ref q := ry
  subst ev eu
  obtain ⟨mA, J, _⟩ := ins_get I.hok hp
  obtain ⟨mB, J', _⟩ := ins_get I.hok hq
  obtain ⟨od, J, _⟩ := J.look
  obtain ⟨od', J', _⟩ := J'.look
  obtain ⟨mm, hF⟩ := I.fr
  rw [hcmp]
  refine PySem.W.cmp_K hu hF I.ok.mod.kin J J'.type (by simp [PySem.W.notFirst]) (by rw [ho]; exact hm.at_) hm.fn (thn (run_fn (us := [.ref p, .ref q]) (vs := [.ref p, .ref q]) (dvs := []) (ds := []) F hr hbd .nil passN I (.cons rx (.cons ry .nil)) sp) ?_)
  rintro w s3 ⟨z, H3, I3, rz, qz⟩
  exact cmpBack_of rz ⟨z, H3, I3, rz, qz⟩
theorem o_ownEq (hu : X.A.units < cLine) (F : CalM X.prog X.w X.K X.mg X.base (W.cl c) "__eq__" k (spD X.K W fx 2)) (hr : Room k X.A) : OpR X (compareOp .Eq) (rOwn X.K W c fx) := o_ownCmp hu F hr rfl fun _ _ => rfl
theorem d_ownEq (hu : X.A.units < cLine) (F : CalM X.prog X.w X.K X.mg X.base (W.cl c) "__eq__" k (spD X.K W fx 2)) (hr : Room k X.A) (ha : PD X W a fa) (hb : PD X W b fb) : PD X W (.Compare a [.Eq] [b] pos) (e2M (mOwn c fx) fa fb) := d_cmpM (o_ownEq hu F hr) q_own ha hb (nomark _)
theorem t_ownEq (hu : X.A.units < cLine) (F : CalM X.prog X.w X.K X.mg X.base (W.cl c) "__eq__" k (spD X.K W fx 2)) (hr : Room k X.A) (ha : PD X W a fa) (hb : PD X W b fb) : PDT X W (.Compare a [.Eq] [b] pos) (tB (e2M (mOwn c fx) fa fb)) := t_cmpM (o_ownEq hu F hr) q_own ha hb (nomark _)
/-- x in c by an own __contains__ that gives a truth value -/
def rOwnIn (K : PySem.W.Frag) (W : Wd) (c : Nat) (fx : FX) (g : Bool → Bool) : R2 := fun x y H Q => (∃ p dx fs, y = .ref p ∧ H p = some (.ins (W.cl c) dx fs)) ∧ spD K W fx 2 [y, x] H (fun w H' => ∃ t, w = .bl t ∧ Q (.bl (g t)) H') E0
def mOwnIn (c : Nat) (fx : FX) (g : Bool → Bool) (x y : D) : M D := if isC c y then M.bind (fx [y, x]) (fun d => M.opt ((dBool d).map fun t => .bl (g t))) else M.opt none
theorem q_ownIn {K : PySem.W.Frag} {g : Bool → Bool} : Op2M K W (rOwnIn K W c fx g) (mOwnIn c fx g) := by
  intro fr F H σ ρ n n' x y d v u Q R dx dy h k
  unfold mOwnIn at h
  split at h
  · rename_i q
    obtain ⟨w, n1, h1, h2⟩ := M.bind_ok h
    obtain ⟨h3, h4⟩ := M.opt_ok h2
    subst h4
    refine ⟨isC_of R.core.sub dy q, spD_ok rfl R (.cons dy (.cons dx .nil)) h1 fun F1 H1 w1 R1 s1 d1 => ?_⟩
    cases w with
    | bl t => cases d1; cases h3; exact ⟨t, rfl, k F1 H1 _ R1 s1 (.bl _)⟩
    | _ => cases h3
  · cases (M.opt_ok h).1
theorem o_ownIn (F : CalM X.prog X.w X.K X.mg X.base (W.cl c) "__contains__" k (spD X.K W fx 2)) (hr : Room k X.A) : OpR X (compareOp .In) (rOwnIn X.K W c fx fun t => t) := by
  obtain ⟨f, fd, ps, F, hm, hbd⟩ := F
  rintro pins s σ H x y v u Q I rx ry ⟨⟨p, dx, fs, rfl, hp⟩, sp⟩
  have eu : u = Value.ref p := ry
  subst eu
  obtain ⟨mA, J, _⟩ := ins_get I.hok hp
  obtain ⟨od, J, _⟩ := J.look
  obtain ⟨mm, hF⟩ := I.fr
  refine PySem.W.in_K hF I.ok.mod.kin J hm.at_ hm.fn (thn (run_fn (us := [.ref p, v]) (vs := [.ref p, x]) (dvs := []) (ds := []) F hr hbd .nil passN I (.cons ry (.cons rx .nil)) sp) ?_)
  rintro w s3 ⟨z, H3, I3, rz, t, rfl, qz⟩
  have ew : w = Value.bool t := rz
  subst ew
  exact wpAny_truthy_bool ⟨.bl t, H3, I3, rfl, qz⟩
theorem o_ownNi (F : CalM X.prog X.w X.K X.mg X.base (W.cl c) "__contains__" k (spD X.K W fx 2)) (hr : Room k X.A) : OpR X (compareOp .NotIn) (rOwnIn X.K W c fx fun t => !t) := by
  obtain ⟨f, fd, ps, F, hm, hbd⟩ := F
  rintro pins s σ H x y v u Q I rx ry ⟨⟨p, dx, fs, rfl, hp⟩, sp⟩
  have eu : u = Value.ref p := ry
  subst eu
  obtain ⟨mA, J, _⟩ := ins_get I.hok hp
  obtain ⟨od, J, _⟩ := J.look
  obtain ⟨mm, hF⟩ := I.fr
  refine PySem.W.notIn_K hF I.ok.mod.kin J hm.at_ hm.fn (thn (run_fn (us := [.ref p, v]) (vs := [.ref p, x]) (dvs := []) (ds := []) F hr hbd .nil passN I (.cons ry (.cons rx .nil)) sp) ?_)
  rintro w s3 ⟨z, H3, I3, rz, t, rfl, qz⟩
  have ew : w = Value.bool t := rz
  subst ew
  exact wpAny_truthy_bool ⟨.bl (!t), H3, I3, rfl, qz⟩
theorem d_ownIn (F : CalM X.prog X.w X.K X.mg X.base (W.cl c) "__contains__" k (spD X.K W fx 2)) (hr : Room k X.A) (ha : PD X W a fa) (hb : PD X W b fb) (hm : behindInMarks .In b = false := by with_unfolding_all rfl) : PD X W (.Compare a [.In] [b] pos) (e2M (mOwnIn c fx fun t => t) fa fb) := d_cmpM (o_ownIn F hr) q_ownIn ha hb hm
theorem t_ownIn (F : CalM X.prog X.w X.K X.mg X.base (W.cl c) "__contains__" k (spD X.K W fx 2)) (hr : Room k X.A) (ha : PD X W a fa) (hb : PD X W b fb) (hm : behindInMarks .In b = false := by with_unfolding_all rfl) : PDT X W (.Compare a [.In] [b] pos) (tB (e2M (mOwnIn c fx fun t => t) fa fb)) := t_cmpM (o_ownIn F hr) q_ownIn ha hb hm
theorem d_ownNi (F : CalM X.prog X.w X.K X.mg X.base (W.cl c) "__contains__" k (spD X.K W fx 2)) (hr : Room k X.A) (ha : PD X W a fa) (hb : PD X W b fb) (hm : behindInMarks .NotIn b = false := by with_unfolding_all rfl) : PD X W (.Compare a [.NotIn] [b] pos) (e2M (mOwnIn c fx fun t => !t) fa fb) := d_cmpM (o_ownNi F hr) q_ownIn ha hb hm
theorem t_ownNi (F : CalM X.prog X.w X.K X.mg X.base (W.cl c) "__contains__" k (spD X.K W fx 2)) (hr : Room k X.A) (ha : PD X W a fa) (hb : PD X W b fb) (hm : behindInMarks .NotIn b = false := by with_unfolding_all rfl) : PDT X W (.Compare a [.NotIn] [b] pos) (tB (e2M (mOwnIn c fx fun t => !t) fa fb)) := t_cmpM (o_ownNi F hr) q_ownIn ha hb hm
/-- one operand -/
def e1M (op : D → M D) (fa : EX) : EX := fun ρ => M.bind (fa ρ) fun x => M.calm (op x)
def mOwn1 (c : Nat) (fx : FX) (x : D) : M D := if isC c x then fx [x] else M.opt none
/-- an own method of one instance, as a reading -/
theorem own1_of {σ : St} {H : Hp} {Q : VK} (h : tD X W (e1M (mOwn1 c fx) fa) σ H Q) : tD X W fa σ H fun x H1 => (∃ p dx fs, x = .ref p ∧ H1 p = some (.ins (W.cl c) dx fs)) ∧ spD X.K W fx 1 [x] H1 Q E0 := by
  obtain ⟨fr, F, ρ, n, r, n', R, e, k⟩ := h
  rcases M.bind_any e with ⟨z, e1, rfl⟩ | ⟨x, n1, e1, h⟩
  · exact ⟨fr, F, ρ, n, .error z, n', R, e1, k⟩
  refine ⟨fr, F, ρ, n, .ok x, n1, R, e1, fun F1 H1 v R1 s1 d1 => ?_⟩
  rcases r with z | d
  · exact (M.calm_err h).elim
  have h := M.calm_ok h
  unfold mOwn1 at h
  split at h
  · rename_i q
    exact ⟨isC_of R1.core.sub d1 q, spD_ok rfl R1 (.cons d1 .nil) h fun F2 H2 w R2 s2 d2 => k F2 H2 w R2 (s1.trans s2) d2⟩
  · cases (M.opt_ok h).1
/-- ~a by an own __invert__ -/
theorem d_ownInv (F : CalM X.prog X.w X.K X.mg X.base (W.cl c) "__invert__" k (spD X.K W fx 1)) (hr : Room k X.A) (ha : PD X W a fa) : PD X W (.UnaryOp .Invert a pos) (e1M (mOwn1 c fx) fa) := by
  obtain ⟨f, fd, ps, F, hm, hbd⟩ := F
  constructor
  intro pins s σ H Q I h
  refine UnaryOp_ (thn (ha.run pins s σ H _ I (own1_of h)) ?_)
  rintro v s1 ⟨x, H1, I1, rx, ⟨p, dx, fs, rfl, hp⟩, sp⟩
  have ev : v = Value.ref p := rx
  subst ev
  obtain ⟨mA, J, _⟩ := ins_get I1.hok hp
  obtain ⟨od, J, _⟩ := J.look
  obtain ⟨mm, hF⟩ := I1.fr
  exact PySem.W.ksp_inv hF I1.ok.mod.kin J hm.at_ hm.fn (run_fn (us := [.ref p]) (vs := [.ref p]) (dvs := []) (ds := []) F hr hbd .nil passN I1 (.cons rx .nil) sp)
/-- the truth of an instance by an own __bool__ -/
def tOwn (c : Nat) (fx : FX) (fa : EX) : TX := fun ρ => M.bind (e1M (mOwn1 c fx) fa ρ) fun d => M.opt (dBool d)
theorem tOwn_of {σ : St} {H : Hp} {Q : Bool → Hp → Prop} (h : tT X W (tOwn c fx fa) σ H Q) : tD X W fa σ H fun x H1 => (∃ p dx fs, x = .ref p ∧ H1 p = some (.ins (W.cl c) dx fs)) ∧ spD X.K W fx 1 [x] H1 (fun w H' => ∃ t, w = .bl t ∧ Q t H') E0 := by
  obtain ⟨fr, F, ρ, n, r, n', R, e, k⟩ := h
  rcases M.bind_any e with ⟨z, e1, rfl⟩ | ⟨d, n1, e1, h⟩
  · exact own1_of ⟨fr, F, ρ, n, .error z, n', R, e1, k⟩
  rcases r with z | t
  · exact (M.opt_err h).elim
  obtain ⟨h1, h2⟩ := M.opt_ok h
  subst h2
  refine own1_of ⟨fr, F, ρ, n, .ok d, _, R, e1, fun F1 H1 v R1 s1 d1 => ?_⟩
  unfold dBool at h1
  split at h1
  · cases h1; cases d1; exact ⟨_, rfl, k F1 H1 R1 s1⟩
  · cases h1
theorem truthy_own {f : Addr} {fd : FuncData} {ps : List Str} {pins : List (Addr × Obj)} {s1 : Shared} {σ : St} {H1 : Hp} {Q : Bool → Hp → Prop} {x : V} {v : Value} (F : FnOk X.prog X.w X.K X.mg X.base (L2.CX X.prog X.w) k f fd ps (spD X.K W fx 1)) (hm : Meth X.K (W.cl c) "__bool__" f) (hbd : Binds X.K fd ps []) (hr : Room k X.A)
    (I1 : Inv X pins σ H1 s1) (rx : RelV x v) (h : (∃ p dx fs, x = .ref p ∧ H1 p = some (.ins (W.cl c) dx fs)) ∧ spD X.K W fx 1 [x] H1 (fun w H' => ∃ t, w = .bl t ∧ Q t H') E0) : wpAny (model X.prog X.w) X.A (truthy v) (TP X pins σ Q) X.xe s1 := by
  obtain ⟨⟨p, dx, fs, rfl, hp⟩, sp⟩ := h
  have ev : v = Value.ref p := rx
  subst ev
  obtain ⟨mA, J, _⟩ := ins_get I1.hok hp
  obtain ⟨od, J, _⟩ := J.look
  obtain ⟨mm, hF⟩ := I1.fr
  refine PySem.W.truthy_K hF I1.ok.mod.kin J hm.at_ hm.fn (thn (run_fn (us := [.ref p]) (vs := [.ref p]) (dvs := []) (ds := []) F hr hbd .nil passN I1 (.cons rx .nil) sp) ?_)
  rintro w s3 ⟨z, H3, I3, rz, t, rfl, qz⟩
  have ew : w = Value.bool t := rz
  subst ew
  exact ⟨H3, I3, qz⟩
theorem t_own (F : CalM X.prog X.w X.K X.mg X.base (W.cl c) "__bool__" k (spD X.K W fx 1)) (hr : Room k X.A) (ha : PD X W a fa) (he : ∀ whole, isTrue a X.env whole = (do let v ← whole; standAt a.pos; holding [v] (truthy v)) := by intro _; rfl) : PDT X W a (tOwn c fx fa) := by
  obtain ⟨f, fd, ps, F, hm, hbd⟩ := F
  constructor
  intro pins s σ H Q I h
  refine isTrue_plain (thn (ha.run pins s σ H _ I (tOwn_of h)) ?_) (he _)
  rintro v s1 ⟨x, H1, I1, rx, q⟩
  exact truthy_own F hm hbd hr I1 rx q
/-- not a, as a value -/
def eNotT (t : TX) : EX := fun ρ => M.bind (t ρ) fun b => M.pure (.bl (!b))
theorem notT_of {t : TX} {σ : St} {H : Hp} {Q : VK} (h : tD X W (eNotT t) σ H Q) : tT X W t σ H fun b H' => Q (.bl (!b)) H' := by
  obtain ⟨fr, F, ρ, n, r, n', R, e, k⟩ := h
  rcases M.bind_any e with ⟨z, e1, rfl⟩ | ⟨b, n1, e1, h⟩
  · exact ⟨fr, F, ρ, n, .error z, n', R, e1, k⟩
  · obtain ⟨h1, h2⟩ := M.pure_any h
    subst h1 h2
    exact ⟨fr, F, ρ, n, .ok b, _, R, e1, fun F1 H1 R1 s1 => k F1 H1 _ R1 s1 (.bl _)⟩
theorem d_ownNot (F : CalM X.prog X.w X.K X.mg X.base (W.cl c) "__bool__" k (spD X.K W fx 1)) (hr : Room k X.A) (ha : PD X W a fa) : PD X W (.UnaryOp .Not a pos) (eNotT (tOwn c fx fa)) := by
  obtain ⟨f, fd, ps, F, hm, hbd⟩ := F
  constructor
  intro pins s σ H Q I h
  refine UnaryOp_ (thn (ha.run pins s σ H _ I (tOwn_of (notT_of h))) ?_)
  rintro v s1 ⟨x, H1, I1, rx, q⟩
  refine not_of (thn (truthy_own F hm hbd hr I1 rx q) ?_)
  rintro t s2 ⟨H2, I2, q2⟩
  exact ⟨.bl (!t), H2, I2, rfl, q2⟩
/-- e.f, a property -/
theorem d_prop {p g : Addr} {fd : FuncData} {ps : List Str} {f : Str} (cl : Cls X.K (W.cl c)) (hp : PropOf X.K (W.cl c) f p g) (F : FnOk X.prog X.w X.K X.mg X.base (L2.CX X.prog X.w) k g fd ps (spD X.K W fx 1)) (hr : Room (k + 1) X.A) (hb : Binds X.K fd ps []) (ha : PD X W a fa)
    (hab : attributeBase a f X.env (eval a X.env) = eval a X.env := by rfl) : PD X W (.Attribute a f pos) (e1M (mOwn1 c fx) fa) := imp_E (pe_prop (E := E0) (dvs := []) (ds := []) ha cl hp F hr hb .nil passN hab) fun σ H Q h => by
  obtain ⟨fr, F, ρ, n, r, n', R, e, k⟩ := own1_of h
  refine ⟨fr, F, ρ, n, r, n', R, e, ?_⟩
  cases r with
  | error z => exact k
  | ok d =>
    intro F1 H1 v R1 s1 d1
    obtain ⟨⟨p, dx, fs, rfl, q⟩, sp⟩ := k F1 H1 v R1 s1 d1
    exact ⟨p, dx, fs, rfl, q, sp⟩
end
end DL
end

section
set_option Elab.async false
set_option linter.all false
set_option autoImplicit false
set_option maxRecDepth 100000
set_option maxHeartbeats 1000000
namespace DL
open PySem PySem.Spec L2
/-! ### a != b by an own __eq__ -/
section
variable {X : Cx} {W : Wd} {c k : Nat} {pos : Pos} {a b : Expr} {fa fb : EX} {fx : FX}
def rOwnNe (K : PySem.W.Frag) (W : Wd) (c : Nat) (fx : FX) : R2 := fun x y H Q => (∃ p dx fs, x = .ref p ∧ H p = some (.ins (W.cl c) dx fs)) ∧ (∃ p dx fs, y = .ref p ∧ H p = some (.ins (W.cl c) dx fs)) ∧ spD K W fx 2 [x, y] H (fun w H' => ∃ t, w = .bl t ∧ Q (.bl (!t)) H') E0
def mOwnNe (c : Nat) (fx : FX) (x y : D) : M D := if isC c x && isC c y then M.bind (fx [x, y]) (fun d => M.opt ((dBool d).map fun t => .bl (!t))) else M.opt none
theorem q_ownNe {K : PySem.W.Frag} : Op2M K W (rOwnNe K W c fx) (mOwnNe c fx) := by
  intro fr F H σ ρ n n' x y d v u Q R dx dy h k
  unfold mOwnNe at h
  split at h
  · rename_i q
    rw [Bool.and_eq_true] at q
    obtain ⟨w, n1, h1, h2⟩ := M.bind_ok h
    obtain ⟨h3, h4⟩ := M.opt_ok h2
    subst h4
    refine ⟨isC_of R.core.sub dx q.1, isC_of R.core.sub dy q.2, spD_ok rfl R (.cons dx (.cons dy .nil)) h1 fun F1 H1 w1 R1 s1 d1 => ?_⟩
    cases w with
    | bl t => cases d1; cases h3; exact ⟨t, rfl, k F1 H1 _ R1 s1 (.bl _)⟩
    | _ => cases h3
  · cases (M.opt_ok h).1
/-- a method run within a built-in -/
theorem run_in1 {f : Addr} {fd : FuncData} {ps : List Str} {sp : Sp} {pins : List (Addr × Obj)} {σ : St} {H : Hp} {s : Shared} {Q : VK} {us : List Value} {vs : List V} {E' : Value → Shared → Prop} (F : FnOk X.prog X.w X.K X.mg X.base (L2.CX X.prog X.w) k f fd ps sp) (hr : Room (k + 1) X.A) (hb : Binds X.K fd ps [])
    (I : Inv X pins σ H s) (r : Vals vs us) (h : sp vs H Q E0) : wpAny (model X.prog X.w) X.A.in1 (call (.ref f) us) (EP X pins σ Q) E' s := by
  have hl : (us ++ []).length = ps.length := by rw [List.append_nil, ← r.length]; exact F.len _ _ _ _ h
  have b := hb s us I.kIn hl
  rw [List.append_nil] at b
  refine wpAny_call (codeAny_mono (F.run X.A.in1 X.stack s H ⟨us, []⟩ us vs Q E0 hr.in1 I.env0.in1 b r h) ?_)
  rintro (e | fl) s' hq
  · exact (passN (X := X) pins σ H s e s' I hq |> fun _ => by
      obtain ⟨_, _, _, _, _, _, _, _, _, _, _, _, z⟩ := hq
      exact z.elim)
  · cases fl with
    | ret u => exact I.after hq
    | next => exact hq.elim
    | brk => exact hq.elim
    | cont => exact hq.elim
theorem o_ownNe (hu : X.A.units + 1 < cLine) (F : CalM X.prog X.w X.K X.mg X.base (W.cl c) "__eq__" k (spD X.K W fx 2)) (hr : Room (k + 1) X.A) (hne : PySem.W.findIn X.K (.ref (W.cl c)) "__ne__" = some (some (.builtin "object.__ne__")))
    (hob : PySem.W.subIn X.K (.ref (W.cl c)) (.type "object") = some true) : OpR X (compareOp .NotEq) (rOwnNe X.K W c fx) := by
  obtain ⟨f, fd, ps, F, hm, hbd⟩ := F
  rintro pins s σ H x y v u Q I rx ry ⟨⟨p, dx, fs, rfl, hp⟩, ⟨q, dy, gs, rfl, hq⟩, sp⟩
  have ev : v = Value.ref p := rx
  have eu : u = Value.ref q := ry
  subst ev eu
  obtain ⟨mA, J, _⟩ := ins_get I.hok hp
  obtain ⟨mB, J', _⟩ := ins_get I.hok hq
  obtain ⟨od, J, _⟩ := J.look
  obtain ⟨od', J', _⟩ := J'.look
  have hu0 : X.A.units < cLine := Nat.lt_of_succ_lt hu
  show wpAny _ _ (richCompare .NotEq (.ref p) (.ref q)) _ _ _
  have S := PySem.F.cmp_object.ne
  have one : wpAny (model X.prog X.w) X.A (tryCompare (.ref p) "__ne__" (.ref q)) (fun r s' => ∃ v, r = some v ∧ EP X pins σ Q v s') X.xe s := by
    have fin : wpAny (model X.prog X.w) X.A (call (.builtin "object.__ne__") ([.ref p] ++ [.ref q]) >>= fun v => pure (some v)) (fun r s' => wpAny (model X.prog X.w) X.A (match r with | some .notImplemented | none => pure none | some v => pure (some v)) (fun r s' => ∃ v, r = some v ∧ EP X pins σ Q v s') X.xe s') X.xe s := by
      refine wpAny_bind (wpAny_call (codeAny_call_builtin S.plain PySem.F.cmpEntry_ne (PySem.W.check_slot PySem.F.cmpKind_ne PySem.F.cmpSplit_ne (J.type.andThen (PySem.W.looks_subIn I.kIn hob)) (PySem.F.cmpArgs_ne _ _) ?_)))
      unfold Builtin.«object.__ne__»
      have eqq := PySem.W.ifBound_K (M := model X.prog X.w) (A := X.A.in1) (args := [.ref q]) (Q := fun r s' => ∃ t, r = some (.bool t) ∧ EP X pins σ Q (.bool (!t)) s') I.kIn J hm.at_ hm.fn (wpAny_mono (run_in1 (us := [.ref p, .ref q]) (vs := [.ref p, .ref q]) (E' := fun e s' => wants (fun v s' => wpAny (model X.prog X.w) X.A (pure (some v)) (fun r s' => wpAny (model X.prog X.w) X.A (match r with | some .notImplemented | none => pure none | some v => pure (some v)) (fun r s' => ∃ v, r = some v ∧ EP X pins σ Q v s') X.xe s') X.xe s') X.xe (.error e) s') F hr hbd I (.cons rx (.cons ry .nil)) sp) (fun w s3 ⟨z, H3, I3, rz, t, ez, qz⟩ => by
        subst ez
        have ew : w = Value.bool t := rz
        subst ew
        exact ⟨t, rfl, .bl (!t), H3, I3, rfl, qz⟩) fun _ _ e => e)
      repeat (first | with_reducible refine wpAny_cRoomFor hu ?_ | with_reducible refine wpAny_bind (wpAny_mono eqq ?_ fun _ _ e => e) | wp_step)
      rintro _ s3 ⟨t, rfl, q⟩
      refine wpAny_bind (wpAny_truthy_bool ?_)
      refine wpAny_pure ?_
      refine wpAny_pure ?_
      exact wpAny_pure ⟨_, rfl, q⟩
    unfold tryCompare
    refine wpAny_bind ?_
    simp only [callSpecialIfBound?, bindSpecialIfBound?]
    refine wpAny_holding (wpAny_bind (wpAny_bind (wpAny_bind (J.type.here ((PySem.W.looks_findIn I.kIn hne).here ?_)))))
    simp only [S.bind]
    refine wpAny_bind (wpAny_askSetting (wpAny_ite ?_))
    split
    · exact wpAny_bind (wpAny_pure (wpAny_pure fin))
    · exact wpAny_tryCatch (wpAny_bind (wpAny_pure (wpAny_pure fin)))
  unfold richCompare
  simp only [oneThing_ref]
  refine wpAny_holding (wpAny_bind (wpAny_cRoomFor hu0 ?_))
  refine wpAny_bind (J.type.here (wpAny_bind (J'.type.here ?_)))
  rw [if_neg (by simp)]
  refine wpAny_bind (wpAny_pure ?_)
  simp only [Bool.false_eq_true, if_false]
  refine wpAny_bind (wpAny_mono one (fun r s' z => ?_) fun _ _ e => e)
  obtain ⟨v, rfl, hq⟩ := z
  exact wpAny_pure hq
theorem d_ownNe (hu : X.A.units + 1 < cLine) (F : CalM X.prog X.w X.K X.mg X.base (W.cl c) "__eq__" k (spD X.K W fx 2)) (hr : Room (k + 1) X.A) (hne : PySem.W.findIn X.K (.ref (W.cl c)) "__ne__" = some (some (.builtin "object.__ne__")))
    (hob : PySem.W.subIn X.K (.ref (W.cl c)) (.type "object") = some true) (ha : PD X W a fa) (hb : PD X W b fb) : PD X W (.Compare a [.NotEq] [b] pos) (e2M (mOwnNe c fx) fa fb) := d_cmpM (o_ownNe hu F hr hne hob) q_ownNe ha hb (nomark _)
theorem t_ownNe (hu : X.A.units + 1 < cLine) (F : CalM X.prog X.w X.K X.mg X.base (W.cl c) "__eq__" k (spD X.K W fx 2)) (hr : Room (k + 1) X.A) (hne : PySem.W.findIn X.K (.ref (W.cl c)) "__ne__" = some (some (.builtin "object.__ne__")))
    (hob : PySem.W.subIn X.K (.ref (W.cl c)) (.type "object") = some true) (ha : PD X W a fa) (hb : PD X W b fb) : PDT X W (.Compare a [.NotEq] [b] pos) (tB (e2M (mOwnNe c fx) fa fb)) := t_cmpM (o_ownNe hu F hr hne hob) q_ownNe ha hb (nomark _)
end
end DL
end

section
set_option Elab.async false
set_option linter.all false
set_option autoImplicit false
set_option maxRecDepth 100000
set_option maxHeartbeats 1000000
namespace DL
open PySem PySem.Spec L2 RZ
section
variable {X : Cx} {W : Wd} {pos : Pos} {a b : Expr} {fa fb : EX}
/-! ### zip of two lists, two tuples -/
def zipD (xs ys : List D) : List D := (xs.zip ys).map fun p => .tup [p.1, p.2]
def dZip : List D → Option (List D)
  | [.lst xs, .lst ys] => some (zipD xs ys)
  | [.tup xs, .tup ys] => some (zipD xs ys)
  | _ => none
def iZipD (f : EXs) : IX := fun ρ => M.bind (f ρ) fun ds => M.opt (dZip ds)
theorem zip_turn {K : PySem.W.Frag} {fr : Fr} {F H H' : Hp} {σ : St} {ρ : Env} {n : Int} {i T : Nat} {x y : V} {xs ys : List V} {ds es : List D} {d : D} (R : Rel K W fr F H σ ρ n) (hx : Dens K W fr.dr F xs ds) (hy : Dens K W fr.dr F ys es) (hd : (zipD ds es)[i]? = some d)
    (hT : H T = none) (hH : H' = upd H T (.tup [x, y])) (h1 : xs[i]? = some x) (h2 : ys[i]? = some y) : ∃ F', Rel K W fr F' H' σ ρ n ∧ Sub F F' ∧ Den K W fr.dr F' (.ref T) d := by
  subst hH
  unfold zipD at hd
  rw [List.getElem?_map] at hd
  obtain ⟨p, hp, e⟩ := Option.map_eq_some_iff.mp hd
  subst e
  obtain ⟨d1, e1, q1⟩ := hx.get' h1
  obtain ⟨d2, e2, q2⟩ := hy.get' h2
  have : p = (d1, d2) := by
    have := List.getElem?_zip_eq_some.mp hp
    rw [e1, e2] at this
    obtain ⟨a1, a2⟩ := this
    cases a1; cases a2; rfl
  subst this
  exact ⟨_, R.fresh hT, R.core.sub.new hT, Core.freshTup (H := H) (n := n) (.cons q1 (.cons q2 .nil)) (R.core.noF hT)⟩
theorem zip_len (ds es : List D) : (zipD ds es).length = min ds.length es.length := by simp [zipD]
theorem it_zipL {K : PySem.W.Frag} {dr : Option Addr} {F0 : Hp} {p q : Addr} {xs ys : List V} {ds es : List D} (h1 : F0 p = some (.lst xs)) (h2 : F0 q = some (.lst ys)) (d1 : Dens K W dr F0 xs ds) (d2 : Dens K W dr F0 ys es) : ItOk K W dr F0 (Itz K p q) (zipD ds es) := fun fr F H σ ρ n i edr R s => by
  subst edr
  have g1 : H p = some (.lst xs) := R.core.sub _ _ (s _ _ h1)
  have g2 : H q = some (.lst ys) := R.core.sub _ _ (s _ _ h2)
  refine ⟨fun d e => ?_, fun e => ⟨xs, ys, SqL.of g1, SqL.of g2, by rw [zip_len] at e; rw [d1.length, d2.length]; omega⟩⟩
  have hi := (List.getElem?_eq_some_iff.mp e).1
  rw [zip_len] at hi
  obtain ⟨x, ex⟩ : ∃ x, xs[i]? = some x := ⟨_, List.getElem?_eq_getElem (by rw [d1.length]; omega)⟩
  obtain ⟨y, ey⟩ : ∃ y, ys[i]? = some y := ⟨_, List.getElem?_eq_getElem (by rw [d2.length]; omega)⟩
  refine ⟨⟨xs, ys, x, y, SqL.of g1, SqL.of g2, ex, ey⟩, ?_⟩
  rintro v H' ⟨T, x', y', rfl, hT, hH, k1, k2⟩
  exact zip_turn R (d1.mono s fun _ z => z) (d2.mono s fun _ z => z) e hT hH (k1 _ (SqL.of g1)) (k2 _ (SqL.of g2))
theorem it_zipT {K : PySem.W.Frag} {dr : Option Addr} {F0 : Hp} {p q : Addr} {xs ys : List V} {ds es : List D} (h1 : SqT K F0 p xs) (h2 : SqT K F0 q ys) (d1 : Dens K W dr F0 xs ds) (d2 : Dens K W dr F0 ys es) : ItOk K W dr F0 (ItzT K p q) (zipD ds es) := fun fr F H σ ρ n i edr R s => by
  subst edr
  have g1 : SqT K H p xs := R.core.sub.sqT (s.sqT h1)
  have g2 : SqT K H q ys := R.core.sub.sqT (s.sqT h2)
  refine ⟨fun d e => ?_, fun e => ⟨xs, ys, g1, g2, by rw [zip_len] at e; rw [d1.length, d2.length]; omega⟩⟩
  have hi := (List.getElem?_eq_some_iff.mp e).1
  rw [zip_len] at hi
  obtain ⟨x, ex⟩ : ∃ x, xs[i]? = some x := ⟨_, List.getElem?_eq_getElem (by rw [d1.length]; omega)⟩
  obtain ⟨y, ey⟩ : ∃ y, ys[i]? = some y := ⟨_, List.getElem?_eq_getElem (by rw [d2.length]; omega)⟩
  refine ⟨⟨xs, ys, x, y, g1, g2, ex, ey⟩, ?_⟩
  rintro v H' ⟨T, x', y', rfl, hT, hH, k1, k2⟩
  exact zip_turn R (d1.mono s fun _ z => z) (d2.mono s fun _ z => z) e hT hH (k1 _ g1) (k2 _ g2)
theorem i_zip {e e2 : Expr} {f : EXs} {p tpos : Pos} {elts : List Expr} {kk : Nat} (hg : Gl X "zip") (hm : X.mg "zip" = none) (ha : PDs X W [e, e2] f) (hs : starEach [e, e2] X.env = (false, eval e X.env) :: starEach [e2] X.env := by rfl) (hpl : (backTo pos (starEach [e2] X.env)).any (·.1) = false := by rfl) :
    PDI X W (.Tuple elts kk tpos) (.Call (.Name "zip" p) [e, e2] [] pos) (iZipD f) := imp_I (pi_zipA hg hm ha hs hpl) fun σ H R ⟨fr, F, ρ, n, r, n', R0, ev, k⟩ => by
  rcases r with z | ds
  · exact R0.dsE1 ev k
  obtain ⟨x, n1, e1, h⟩ := M.bind_ok ev
  obtain ⟨h1, h2⟩ := M.opt_ok h
  subst h2
  refine ⟨fr, F, ρ, n, .ok x, _, R0, e1, fun F1 H1 vs R1 s1 d1 => ?_⟩
  unfold dZip at h1
  split at h1
  · cases h1
    cases d1 with
    | cons q1 d2 => cases d2 with
      | cons q2 d3 =>
        cases d3
        cases q1 with
        | lst a1 a2 => cases q2 with
          | lst b1 b2 => exact ⟨_, _, _, _, rfl, .inl ⟨SqL.of (R1.core.sub _ _ a1), SqL.of (R1.core.sub _ _ b1), k F1 H1 _ R1 s1 (it_zipL a1 b1 a2 b2)⟩⟩
  · cases h1
    cases d1 with
    | cons q1 d2 => cases d2 with
      | cons q2 d3 =>
        cases d3
        cases q1 with
        | tup a1 a2 => cases q2 with
          | tup b1 b2 => exact ⟨_, _, _, _, rfl, .inr ⟨R1.core.sub.sqT a1, R1.core.sub.sqT b1, k F1 H1 _ R1 s1 (it_zipT a1 b1 a2 b2)⟩⟩
  · cases h1
/-! ### x in a list, a tuple of flat items, a dict -/
def flatD : D → Bool
  | .non => true
  | .bl _ => true
  | .int _ => true
  | .str _ => true
  | _ => false
def eqF : D → D → Bool
  | .non, .non => true
  | .bl a, .bl b => a == b
  | .bl a, .int b => (if a then 1 else 0) == b
  | .int a, .bl b => a == (if b then 1 else 0)
  | .int a, .int b => a == b
  | .str a, .str b => a == b
  | _, _ => false
theorem flat_of {K : PySem.W.Frag} {dr : Option Addr} {F : Hp} {v : V} {d : D} (h : Den K W dr F v d) (e : flatD d = true) : flatV v = true := by
  cases h <;> first | rfl | cases e
theorem eqF_of {K : PySem.W.Frag} {dr : Option Addr} {F : Hp} {v u : V} {d e : D} (h : Den K W dr F v d) (h' : Den K W dr F u e) (f : flatD d = true) (g : flatD e = true) : eqV v u = eqF d e := by
  cases h <;> cases h' <;> first | rfl | cases f | cases g
theorem flats_of {K : PySem.W.Frag} {dr : Option Addr} {F : Hp} : ∀ {vs : List V} {ds : List D}, Dens K W dr F vs ds → ds.all flatD = true → vs.all flatV = true
  | _, _, .nil, _ => rfl
  | _, _, .cons h r, e => by
    rw [List.all_cons, Bool.and_eq_true] at e
    rw [List.all_cons, flat_of h e.1, flats_of r e.2]; rfl
theorem inV_of {K : PySem.W.Frag} {dr : Option Addr} {F : Hp} {v : V} {d : D} (h : Den K W dr F v d) (f : flatD d = true) : ∀ {vs : List V} {ds : List D}, Dens K W dr F vs ds → ds.all flatD = true → inV v vs = ds.any fun e => eqF e d
  | _, _, .nil, _ => rfl
  | _, _, .cons h1 r, e => by
    rw [List.all_cons, Bool.and_eq_true] at e
    have := inV_of h f r e.2
    unfold inV at this ⊢
    rw [List.any_cons, List.any_cons, this, eqF_of h1 h e.1 f]
def dInB (x y : D) : Option Bool := match y with
  | .lst ys => if flatD x && ys.all flatD then some (ys.any fun e => eqF e x) else none
  | .tup ys => if flatD x && ys.all flatD then some (ys.any fun e => eqF e x) else none
  | .dic ks vs => (match keyD x with
    | some k => some (valD ks vs k).isSome
    | none => none)
  | _ => none
def dIn (x y : D) : Option D := match dInB x y with | some t => some (.bl t) | none => none
def dNi (x y : D) : Option D := match dInB x y with | some t => some (.bl (!t)) | none => none
def rDinG (g : Bool → Bool) : R2 := fun y x H Q => ∃ a o, x = .ref a ∧ DGet H a y o ∧ Q (.bl (g o.isSome)) H
theorem o_din (hu : X.A.units + 1 < cLine) : OpR X (compareOp .In) (rDinG fun t => t) := by
  rintro pins s σ H x y v u Q I rx ry ⟨p, o, rfl, g, q⟩
  have eu : u = Value.ref p := ry
  subst eu
  exact d_in hu I g rx fun s3 I3 => ⟨.bl o.isSome, H, I3, rfl, q⟩
theorem o_dni (hu : X.A.units + 1 < cLine) : OpR X (compareOp .NotIn) (rDinG fun t => !t) := by
  rintro pins s σ H x y v u Q I rx ry ⟨p, o, rfl, g, q⟩
  have eu : u = Value.ref p := ry
  subst eu
  exact d_notIn hu I g rx fun s3 I3 => ⟨.bl (!o.isSome), H, I3, rfl, q⟩
theorem valD_some {κ : Type} [DecidableEq κ] {K : PySem.W.Frag} {dr : Option Addr} {F : Hp} {k : κ} : ∀ {ks : List κ} {vs : List V} {ds : List D}, ks.length = vs.length → Dens K W dr F vs ds → (valV (ks.zip vs) k).isSome = (valD ks ds k).isSome
  | [], _, _, _, _ => by simp [valV, valD]
  | x :: xs, [], _, l, _ => by cases l
  | x :: xs, v :: vs, _, l, .cons h1 h2 => by
    rw [List.zip_cons_cons]
    unfold valD
    by_cases q : x = k
    · rw [if_pos q, valV_pos q]
      rfl
    · rw [if_neg q, valV_neg q]
      exact valD_some (ks := xs) (by simpa using l) h2
def rInA (K : PySem.W.Frag) (neg : Bool) : R2 := fun x y H Q => rIn K neg x y H Q ∨ rDinG (fun t => if neg then !t else t) x y H Q
theorem o_in (hu : X.A.units + 1 < cLine) : OpR X (compareOp .In) (rInA X.K false) := op_in_seq.or (o_din hu)
theorem o_ni (hu : X.A.units + 1 < cLine) : OpR X (compareOp .NotIn) (rInA X.K true) := op_notIn_seq.or (o_dni hu)
theorem q_inA {K : PySem.W.Frag} {fr : Fr} {F H : Hp} {σ : St} {ρ : Env} {n : Int} {x y : D} {t : Bool} {v u : V} {Q : VK} {neg : Bool} (R : Rel K W fr F H σ ρ n) (dx : Den K W fr.dr F v x) (dy : Den K W fr.dr F u y) (h : dInB x y = some t) (k : Q (.bl (if neg then !t else t)) H) : rInA K neg v u H Q := by
  unfold dInB at h
  split at h
  · split at h
    · rename_i q
      rw [Bool.and_eq_true] at q
      cases h
      cases dy with
      | lst h1 h2 => exact .inl ⟨_, _, rfl, .inl (SqL.of (R.core.sub _ _ h1)), flat_of dx q.1, flats_of h2 q.2, by rw [inV_of dx q.1 h2 q.2]; exact k⟩
    · cases h
  · split at h
    · rename_i q
      rw [Bool.and_eq_true] at q
      cases h
      cases dy with
      | tup h1 h2 => exact .inl ⟨_, _, rfl, .inr (R.core.sub.sqT h1), flat_of dx q.1, flats_of h2 q.2, by rw [inV_of dx q.1 h2 q.2]; exact k⟩
    · cases h
  · split at h
    · rename_i ks vs key q
      cases h
      cases dy with
      | dic l h1 h2 =>
        refine .inr ⟨_, _, rfl, .inl ⟨_, key, R.core.sub.rd h1, key_of dx q, rfl⟩, ?_⟩
        rw [valD_some l h2]
        exact k
    · cases h
  · cases h
theorem q_in {K : PySem.W.Frag} : Op2 K W (rInA K false) dIn := by
  intro fr F H σ ρ n x y d v u Q R dx dy h k
  unfold dIn at h
  split at h
  · cases h
    exact q_inA R dx dy ‹_› (k F H _ R (Sub.refl _) (.bl _))
  · cases h
theorem q_ni {K : PySem.W.Frag} : Op2 K W (rInA K true) dNi := by
  intro fr F H σ ρ n x y d v u Q R dx dy h k
  unfold dNi at h
  split at h
  · cases h
    exact q_inA R dx dy ‹_› (k F H _ R (Sub.refl _) (.bl _))
  · cases h
theorem d_in (hu : X.A.units + 1 < cLine) (ha : PD X W a fa) (hb : PD X W b fb) (hm : behindInMarks .In b = false := by with_unfolding_all rfl) : PD X W (.Compare a [.In] [b] pos) (e2 dIn fa fb) := d_cmp (o_in hu) q_in ha hb hm
theorem d_ni (hu : X.A.units + 1 < cLine) (ha : PD X W a fa) (hb : PD X W b fb) (hm : behindInMarks .NotIn b = false := by with_unfolding_all rfl) : PD X W (.Compare a [.NotIn] [b] pos) (e2 dNi fa fb) := d_cmp (o_ni hu) q_ni ha hb hm
theorem t_in (hu : X.A.units + 1 < cLine) (ha : PD X W a fa) (hb : PD X W b fb) (hm : behindInMarks .In b = false := by with_unfolding_all rfl) : PDT X W (.Compare a [.In] [b] pos) (tB (e2 dIn fa fb)) := t_cmp (o_in hu) q_in ha hb hm
theorem t_ni (hu : X.A.units + 1 < cLine) (ha : PD X W a fa) (hb : PD X W b fb) (hm : behindInMarks .NotIn b = false := by with_unfolding_all rfl) : PDT X W (.Compare a [.NotIn] [b] pos) (tB (e2 dNi fa fb)) := t_cmp (o_ni hu) q_ni ha hb hm
/-! ### isinstance of an instance -/
def dIsO (m : Nat → Option Bool) : D → Option D
  | .obj c _ _ => (m c).map .bl
  | _ => none
/-- what isinstance asks of an instance's class -/
structure InsC (K : PySem.W.Frag) (C : Addr) : Prop where
  cl : Cls K C
  ha : PySem.W.findIn K (.ref C) "__class__" = some (some (.builtin "object.__class__"))
  hn : PySem.W.specialIn K (.builtin "object.__class__") "__get__" = some (some (.builtin "getset_descriptor.__get__"))
  ht : PySem.W.takesIn K (.builtin "object.__class__") = some true
  hm : PySem.W.mroIn K C (.type "object") = some true
theorem d_isO {m : Nat → Option Bool} {Cn : Str} {Cv : Addr} {p tp : Pos} {e : Expr} {f : EX} (hg : Gl X "isinstance") (hm : X.mg "isinstance" = none) (hgC : Gl X Cn) (hmC : X.mg Cn = some (.ref Cv)) (hI : ∀ c t, m c = some t → InsC X.K (W.cl c) ∧ PySem.W.kitOne X.K (.ref (W.cl c)) (.ref Cv) = some t) (ha : PD X W e f) (hd : (Cn == ("__debug__" : Str)) = false := by decide)
    (he : starEach [e, .Name Cn tp] X.env = (false, eval e X.env) :: starEach [.Name Cn tp] X.env := by rfl) (he2 : starEach [.Name Cn tp] X.env = (false, eval (.Name Cn tp) X.env) :: starEach [] X.env := by rfl) (hpl : (backTo pos (starEach [.Name Cn tp] X.env)).any (·.1) = false := by rfl) :
    PD X W (.Call (.Name "isinstance" p) [e, .Name Cn tp] [] pos) (e1 (dIsO m) f) :=
  imp_E (pe_callB call_isi hg hm rfl (pa_cons ha (pa_cons (pe_glob (v := .ref Cv) hgC hmC rfl hd) pa_nil he2) he) (by decide) (by decide) he hpl) fun σ H Q ⟨fr, F, ρ, n, r, n', R, ev, k⟩ => by
    rcases r with z | d
    · exact R.dE1 ev k
    obtain ⟨y, n1, h1, h2⟩ := M.bind_ok ev
    obtain ⟨h3, h4⟩ := M.opt_ok h2
    subst h4
    unfold dIsO at h3
    split at h3
    · rename_i c ks vs
      obtain ⟨t, h5, h6⟩ := Option.map_eq_some_iff.mp h3
      subst h6
      obtain ⟨I, kk⟩ := hI c t h5
      refine ⟨fr, F, ρ, n, .ok _, _, R, h1, fun F1 H1 v R1 s1 d1 => ?_⟩
      cases d1 with
      | obj l hF hd => exact ⟨_, .ref Cv, _, _, t, rfl, .own Cv, .base (.ins (R1.core.sub _ _ hF) I.cl I.ha I.hn I.ht I.hm), kk, k F1 H1 _ R1 s1 (.bl _)⟩
    · cases h3
end
end DL
end

section
set_option Elab.async false
set_option linter.all false
set_option autoImplicit false
set_option maxRecDepth 100000
set_option maxHeartbeats 1000000
namespace DL
open PySem PySem.Spec L2
section
variable {X : Cx} {W : Wd} {pos : Pos}
/-! ### {k: v for ..} -/
def dcompD (body : D → M (Option (Key × D))) : List D → List Key → List D → M (List Key × List D)
  | [], ks, vs => M.pure (ks, vs)
  | d :: ds, ks, vs => M.bind (body d) fun y => match y with
    | some p => if ks.length < sizeLine then dcompD body ds (dkKs ks p.1) (dkDs ks vs p.1 p.2) else M.opt none
    | none => dcompD body ds ks vs
def dcompB (vs : List Nat) (g : GX) (t : TX) (fk fv : EX) (ρ : Env) (d : D) : M (Option (Key × D)) := M.bind (M.opt (g d (hide (wipeD ρ vs)))) fun ρ1 => M.bind (t ρ1) fun b => match b with
  | true => M.bind (fk ρ1) fun y => M.bind (M.opt (keyD y)) fun k => M.bind (fv ρ1) fun z => M.pure (some (k, z))
  | false => M.pure none
def eDComp (vs : List Nat) (g : GX) (it : IX) (t : TX) (fk fv : EX) : EX := fun ρ => M.bind (it ρ) fun ds => M.bind (M.calm (dcompD (dcompB vs g t fk fv ρ) ds [] [])) fun r => M.pure (.dic r.1 r.2)
theorem d_tDc {vs : List Nat} {tg : TG} {g : GX} {is : List Nat} {it : IX} {t : TX} {fk fv : EX} (hg : GOk X.K W tg g is) (hv : ∀ i ∈ is, i ∈ vs) {σ : St} {H : Hp} {Q : VK} (h : tD X W (eDComp vs g it t fk fv) σ H Q) : tDc (tI X W it) tg (tTk X.K W t) (tDk X.K W fk) (tDk X.K W fv) vs σ H Q := by
  obtain ⟨fr, F, ρ, n, r, n', R, e, k⟩ := h
  rcases M.bind_any e with ⟨z, e1, rfl⟩ | ⟨ds, n1, e1, h⟩
  · exact ⟨fr, F, ρ, n, .error z, n', R, e1, k⟩
  rcases M.bind_any h with ⟨z, e1, rfl⟩ | ⟨⟨zk, zv⟩, n2, e2, h2⟩
  · exact (M.calm_err e1).elim
  replace e2 := M.calm_ok e2
  obtain ⟨q1, q2⟩ := M.pure_any h2
  subst q1 q2
  clear h h2
  refine ⟨fr, F, ρ, n, .ok ds, n1, R, e1, fun F1 H1 J R1 s1 ok => fun p hp => ?_⟩
  refine ⟨fun i m H' => m = ds.length - i ∧ i ≤ ds.length ∧ ∃ F' n'' ks us dv, Rel X.K W fr F' H' σ ρ n'' ∧ Sub F1 F' ∧ F' p = none ∧ ks.length = us.length ∧ H' p = some (.dK (ks.zip us)) ∧ Dens X.K W fr.dr F' us dv ∧ dcompD (dcompB vs g t fk fv ρ) (ds.drop i) ks dv n'' = some (.ok (zk, zv), _),
    ⟨ds.length, by simp, Nat.zero_le _, F1, n1, [], [], [], ?_, Sub.refl _, R1.core.noF hp, rfl, upd_same, .nil, e2⟩, ?_⟩
  · exact R1.other (R1.core.noF hp) (R1.core.noH0 hp) (R1.core.ndr hp) (R1.noOwn hp) (sd_no hp)
  have hH0 := R1.core.noH0 hp
  have hdr := R1.core.ndr hp
  have hno := R1.noOwn hp
  rintro i m H2 ⟨rfl, hi, F2, m2, ks, us, dv, R2, s2, f2, l2, a2, d2, c2⟩
  have RI : Rel X.K W (fr.at F2 H2) F2 H2 (wipe σ vs) (hide (wipeD ρ vs)) m2 := (R2.wipe vs).inner
  by_cases hlt : i < ds.length
  · refine .inr ?_
    rw [List.drop_eq_getElem_cons hlt] at c2
    obtain ⟨y, n3, c3, hc⟩ := M.bind_ok c2
    obtain ⟨ρ1, n5, b1, hb1⟩ := M.bind_ok c3
    obtain ⟨b2, b3⟩ := M.opt_ok b1
    obtain ⟨b, n6, b4, hb2⟩ := M.bind_ok hb1
    clear hb1 b1 c3
    subst b3
    obtain ⟨g1, g2⟩ := (ok (fr.at F2 H2) F2 H2 _ _ _ i rfl RI s2).1 ds[i] (by simp [hlt])
    refine ⟨g1, fun H' => ∃ F' n'' ks us dv, Rel X.K W fr F' H' σ ρ n'' ∧ Sub F1 F' ∧ F' p = none ∧ ks.length = us.length ∧ H' p = some (.dK (ks.zip us)) ∧ Dens X.K W fr.dr F' us dv ∧ dcompD (dcompB vs g t fk fv ρ) (ds.drop (i + 1)) ks dv n'' = some (.ok (zk, zv), _), fun H' q => ⟨_, by omega, rfl, hlt, q⟩, fun x H' yl => ?_⟩
    obtain ⟨F3, R3, s3, d3⟩ := g2 x H' yl
    refine hg (fr.at F2 H2) F3 H' _ _ ρ1 _ x _ _ R3 d3 b2 fun σ3 R4 w4 => ⟨(w4 vs hv).trans (wipe_wipe σ vs), ?_⟩
    refine ⟨fr.at F2 H2, F3, ρ1, _, b, n6, R4, b4, fun F5 H5 R5 s5 => ?_⟩
    cases b with
    | true =>
      rw [if_pos rfl]
      obtain ⟨yk, n7, b5, hb3⟩ := M.bind_ok hb2
      obtain ⟨kk, n8, b6, hb4⟩ := M.bind_ok hb3
      obtain ⟨b7, b8⟩ := M.opt_ok b6
      obtain ⟨z, n9, b9, hb5⟩ := M.bind_ok hb4
      obtain ⟨b10, b11⟩ := M.pure_ok hb5
      clear hb2 hb3 hb4 hb5 b6
      subst b8 b10 b11
      refine ⟨fr.at F2 H2, F5, ρ1, n6, yk, _, R5, b5, fun F6 H6 v R6 s6 d6 => ⟨fr.at F2 H2, F6, ρ1, _, z, _, R6, b9, fun F7 H7 u R7 s7 d7 => ?_⟩⟩
      have hc : (if ks.length < sizeLine then dcompD (dcompB vs g t fk fv ρ) (ds.drop (i + 1)) (dkKs ks kk) (dkDs ks dv kk z) else M.opt none) n3 = _ := hc
      split at hc
      · rename_i hz
        have a7 : H7 p = some (.dK (ks.zip us)) := R7.core.base p _ (mask_of a2) hdr fun z => z
        have f7 : F7 p = none := R7.core.new p _ (mask_of a2) f2
        have s27 : Sub F2 F7 := R7.core.f0
        have hk := key_of d6 b7
        subst hk
        refine ⟨_, kk, rfl, a7, by rw [List.length_zip, l2, Nat.min_self, ← l2]; exact hz, F7, _, dkKs ks kk, dkDs ks us kk u, dkDs ks dv kk z, ?_, s2.trans s27, f7, put_len l2, ?_, dkDs_dens d7 (d2.mono s27 fun _ z => z), hc⟩
        · exact (R2.back R7.core).other f7 hH0 hdr hno (sd_of a7)
        · rw [upd_same, put_zip l2]
      · cases (M.opt_ok hc).1
    | false =>
      rw [if_neg Bool.false_ne_true]
      obtain ⟨b6, b7⟩ := M.pure_ok hb2
      clear hb2
      subst b6 b7
      have a6 : H5 p = some (.dK (ks.zip us)) := R5.core.base p _ (mask_of a2) hdr fun z => z
      have f6 : F5 p = none := R5.core.new p _ (mask_of a2) f2
      have s26 : Sub F2 F5 := R5.core.f0
      exact ⟨F5, _, ks, us, dv, R2.back R5.core, s2.trans s26, f6, l2, a6, d2.mono s26 fun _ z => z, hc⟩
  · have ei : i = ds.length := by omega
    refine .inl ⟨(ok (fr.at F2 H2) F2 H2 _ _ _ i rfl RI s2).2 ei, ?_⟩
    rw [ei, List.drop_length] at c2
    obtain ⟨a1, a3⟩ := M.pure_ok c2
    cases a1
    subst a3
    obtain ⟨u1, R7⟩ := R2.addF a2 f2 hH0 hdr hno
    exact k _ H2 _ R7 ((s1.trans s2).trans u1) (.dic l2 (.inl upd_same) (d2.mono u1 fun _ z => z))
theorem d_dcomp {vs : List Nat} {kx vx tg iter : Expr} {ifs : List Expr} {scope : Scope} {own : List (Str × Nat)} {t : TG} {g : GX} {is : List Nat} {it : IX} {tt : TX} {fk fv : EX} (hc : X.calm = true) (hN : X.N.Nodup) (hi : PDI X W tg iter it) (ok : BlkOk X.N X.env.scope scope own)
    (hg : ∀ (s : Shared) (H : Hp) (C : Addr) (cl : List (Str × Addr)) (fp : List Addr), PG (X.blk s H scope (compEnvC scope cl C X.env) fp) tg t) (hq : GOk X.K W t g is) (hv : ∀ i ∈ is, i ∈ vs)
    (ht : ∀ (s : Shared) (H : Hp) (C : Addr) (cl : List (Str × Addr)) (fp : List Addr), PTs (X.blk s H scope (compEnvC scope cl C X.env) fp) ifs (tT (X.blk s H scope (compEnvC scope cl C X.env) fp) W tt))
    (hk : ∀ (s : Shared) (H : Hp) (C : Addr) (cl : List (Str × Addr)) (fp : List Addr), PD (X.blk s H scope (compEnvC scope cl C X.env) fp) W kx fk)
    (he : ∀ (s : Shared) (H : Hp) (C : Addr) (cl : List (Str × Addr)) (fp : List Addr), PD (X.blk s H scope (compEnvC scope cl C X.env) fp) W vx fv) (hs : ∀ x, foldedSetIterable iter X.env x = pure x := by intro _; rfl) (hvs : own.map (·.2) = vs := by rfl) :
    PD X W (.DictComp kx vx [⟨tg, iter, ifs, 0⟩] scope pos) (eDComp vs g it tt fk fv) := by
  subst hvs
  exact imp_E (pe_dc (tt := tTk X.K W tt) (tk := tDk X.K W fk) (tv := tDk X.K W fv) hc hN hi ok hg (fun s H C cl fp => tsk (ht s H C cl fp)) (fun s H C cl fp => dk (hk s H C cl fp)) (fun s H C cl fp => dk (he s H C cl fp)) hs) fun _ _ _ h => d_tDc hq hv h
/-! ### self.a, self.b, .. = e -/
def gAttr (K : PySem.W.Frag) (i : Nat) (C : Addr) (f : Str) : TG := fun v σ H Q => ∃ a dx fs, σ[i]? = some (some (.ref a)) ∧ H a = some (.ins C dx fs) ∧ fs.length < 1000 ∧ Q σ (upd H a (.ins C dx (putF f v fs)))
theorem pg_attr {i : Nat} {C : Addr} {o : Expr} {f : Str} {tpos : Pos} (cl : Cls X.K C) (na : NoAttr X.K C f) (ho : PE X o (tVar i)) : PG X (.Attribute o f tpos) (gAttr X.K i C f) := by
  constructor
  rintro pins s σ H v u Q I r ⟨a, dx, fs, h1, h2, h3, q⟩
  rw [arm_assign_Attribute]
  refine wpAny_bind (wpAny_holding (thn (ho.run pins s σ H (fun x H' => x = .ref a ∧ H' = H) I ⟨_, h1, rfl, rfl⟩) ?_))
  rintro ov s1 ⟨x, H1, I1, rx, rfl, rfl⟩
  have eo : ov = Value.ref a := rx
  subst eo
  refine wpAny_bind (wpAny_standAt (wpAny_bind (wpAny_holding (setattr_ok I1 h2 cl na h3 r fun s3 I3 => ?_))))
  exact wpAny_release ⟨σ, _, I3, q⟩
def uFlds (c : Nat) : List Str → List D → D → Option D
  | [], [], o => some o
  | f :: fs, d :: ds, o => (uFld c f d o).bind (uFlds c fs ds)
  | _, _, _ => none
def gAttrs (K : PySem.W.Frag) (i : Nat) (C : Addr) : List Str → TGs
  | [] => gNil
  | f :: fs => gCons (gAttr K i C f) (gAttrs K i C fs)
theorem attrs_ok {i c : Nat} {fr : Fr} {F : Hp} {σ : St} {n : Int} {Q : St → Hp → Prop} : ∀ {fs : List Str} {ds : List D} {vs : List V} {o o' : D} {ρ : Env} {H : Hp}, Rel X.K W fr F H σ ρ n → ρ[i]? = some (.own o) → Dens X.K W fr.dr F vs ds → uFlds c fs ds o = some o' →
    (∀ H', Rel X.K W fr F H' σ (ρ.set i (.own o')) n → Q σ H') → gAttrs X.K i (W.cl c) fs vs σ H Q
  | [], [], _, o, o', ρ, H, R, hi, .nil, e, k => by
    unfold uFlds at e
    cases e
    refine ⟨rfl, k H ?_⟩
    have : ρ.set i (.own o) = ρ := by
      apply List.ext_getElem?
      intro j
      by_cases hj : i = j
      · subst hj
        rw [get_set_self (List.getElem?_eq_some_iff.mp hi).1, hi]
      · rw [List.getElem?_set_ne hj]
    rw [this]; exact R
  | [], _ :: _, _, _, _, _, _, _, _, _, e, _ => by cases e
  | _ :: _, [], _, _, _, _, _, _, _, _, e, _ => by cases e
  | f :: fs, d :: ds, _, o, o', ρ, H, R, hi, .cons h1 h2, e, k => by
    unfold uFlds at e
    obtain ⟨o1, e1, e2⟩ := Option.bind_eq_some_iff.mp e
    unfold uFld at e1
    split at e1
    · split at e1
      · rename_i c' ks us q
        obtain ⟨q1, q2, q3⟩ := q
        subst q1
        cases e1
        obtain ⟨ad, s⟩ := R.slots
        obtain ⟨a1, a2, a3, a4, ⟨dx, ws, l, a5, a6⟩, a7⟩ := s.own i _ hi
        have m' : MDen X.K W fr.dr F (upd H (ad i) (.ins (W.cl c') dx (putF f _ (ks.zip ws)))) (ad i) (.obj c' (putKs f ks) (putVs f d ks us)) :=
          ⟨dx, _, putKs_length f _ l, by rw [upd_same, putF_zip f _ l], a6.putVs f h1 l⟩
        refine ⟨_, _, rfl, ad i, dx, _, a1, a5, by rw [List.length_zip, l, Nat.min_self, ← l]; exact q2, ?_⟩
        refine attrs_ok (R.change s hi m' rfl) (by rw [get_set_self (List.getElem?_eq_some_iff.mp hi).1]) h2 e2 fun H' R' => k H' ?_
        rw [List.set_set] at R'
        exact R'
      · cases e1
    · cases e1
def sFlds (i c : Nat) (fs : List Str) (fx : EX) : SX := fun ρ => M.bind (fx ρ) fun d => match d with
  | .tup ds => M.bind (M.opt ((own? ρ i).bind (uFlds c fs ds))) fun o => M.pure (.nx (ρ.set i (.own o)))
  | _ => M.opt none
theorem uFlds_len {c : Nat} : ∀ {fs : List Str} {ds : List D} {o o' : D}, uFlds c fs ds o = some o' → ds.length = fs.length
  | [], [], _, _, _ => rfl
  | [], _ :: _, _, _, e => by cases e
  | _ :: _, [], _, _, e => by cases e
  | f :: fs, d :: ds, o, o', e => by
    unfold uFlds at e
    obtain ⟨o1, e1, e2⟩ := Option.bind_eq_some_iff.mp e
    simp [uFlds_len e2]
theorem S_flds {i c m : Nat} {fs : List Str} {fx : EX} {tg value : Expr} {pos : Pos} (hv : PD X W value fx) (hg : PG X tg (gTup X.K m (gAttrs X.K i (W.cl c) fs))) (hm : fs.length = m) (hs : swapsWithSole [tg] value pos.line X.env = pure false := by rfl) (hw : swappedStores [tg] value X.env = pure none := by rfl)
    (h1 : (assignEach [tg] X.env).map (·.2) = [assign tg X.env] := by rfl) : PDS X W (.Assign [tg] value pos) (sFlds i c fs fx) := imp_S (ps_asg hv hg hs hw h1) fun E σ H ⟨fr, F, ρ, n, r, n', R, e, k⟩ => by
  rcases M.bind_any e with ⟨z, e1, rfl⟩ | ⟨d, n1, e1, h⟩
  · exact ⟨fr, F, ρ, n, .error z, n', R, e1, KS.x k⟩
  refine ⟨fr, F, ρ, n, .ok d, n1, R, e1, fun F1 H1 v R1 s1 d1 => ?_⟩
  split at h
  · rcases M.bind_any h with ⟨z, e1, rfl⟩ | ⟨o, n2, e2, h2⟩
    · exact (M.opt_err e1).elim
    obtain ⟨e3, e4⟩ := M.opt_ok e2
    subst e4
    obtain ⟨q1, q2⟩ := M.pure_any h2
    subst q1 q2
    obtain ⟨o0, q0, q1⟩ := Option.bind_eq_some_iff.mp e3
    cases d1 with
    | tup a1 a2 =>
      refine ⟨_, _, rfl, R1.core.sub.sqT a1, by rw [a2.length, uFlds_len q1]; exact hm, ?_⟩
      exact attrs_ok R1 (own_some q0) a2 q1 fun H' R' => k F1 H' σ R' s1
  · obtain ⟨_, q⟩ := M.opt_any h
    cases q
/-! ### a new list for oneself -/
def tDN (X : Cx) (W : Wd) (f : EXs) : TE := fun σ H Q => ∃ fr F ρ n r n', Rel X.K W fr F H σ ρ n ∧ f ρ n = some (r, n') ∧
  Res (fun ds => ∀ F' H' vs, Rel X.K W fr F' H' σ ρ n' → Sub F F' → Dens X.K W fr.dr F' vs ds → ∀ p, H' p = none → Q (.ref p) (upd H' p (.lst vs))) (KX X W fr F σ ρ n') r
/-- a[lo:hi] of a list -/
def nCut (f : EX) (lo hi : EO) : EXs := fun ρ => M.bind (f ρ) fun x => M.bind (lo ρ) fun l => M.bind (hi ρ) fun h => M.opt (match x with | .lst xs => some (cutD xs l h) | _ => none)
theorem n_cut {a : Expr} {lo hi : Option Expr} {f : EX} {l h : EO} {p2 : Pos} (ha : PD X W a f) (hl : PO X lo (tOD X W l)) (hh : PO X hi (tOD X W h)) : PE X (.Subscript a (.Slice lo hi none p2) pos) (tDN X W (nCut f l h)) := imp_E (pe_slice sl_list ha hl hh) fun σ H Q ⟨fr, F, ρ, n, r, n', R, e, k⟩ => by
  rcases M.bind_any e with ⟨z, e1, rfl⟩ | ⟨x, n1, e1, h⟩
  · exact ⟨fr, F, ρ, n, .error z, n', R, e1, k⟩
  refine ⟨fr, F, ρ, n, .ok x, n1, R, e1, fun F1 H1 v R1 s1 d1 => ?_⟩
  rcases M.bind_any h with ⟨z, e2, rfl⟩ | ⟨l', n2, e2, h⟩
  · exact ⟨fr, F1, ρ, n1, .error z, n', R1, e2, KX.mono k s1⟩
  refine ⟨fr, F1, ρ, n1, .ok l', n2, R1, e2, fun F2 H2 R2 s2 => ?_⟩
  rcases M.bind_any h with ⟨z, e3, rfl⟩ | ⟨u', n3, e3, h⟩
  · exact ⟨fr, F2, ρ, n2, .error z, n', R2, e3, KX.mono (KX.mono k s1) s2⟩
  refine ⟨fr, F2, ρ, n2, .ok u', n3, R2, e3, fun F3 H3 R3 s3 => ?_⟩
  rcases r with z | ds
  · exact (M.opt_err h).elim
  obtain ⟨e4, e5⟩ := M.opt_ok h
  subst e5
  have d3 := d1.mono (dr' := fr.dr) (s2.trans s3) fun _ z => z
  split at e4
  · cases e4
    cases d3 with
    | lst h1 h2 => exact ⟨_, _, rfl, SqL.of (R3.core.sub _ _ h1), fun p hp => k F3 H3 _ R3 ((s1.trans s2).trans s3) (h2.cut _ _) p hp⟩
  · cases e4
/-- [a, b, ..] -/
def nLst (f : EXs) : EXs := fun ρ => M.bind (f ρ) fun ds => M.opt (if gz ds then some ds else none)
theorem n_lst {es : List Expr} {f : EXs} (h : PDs X W es f) : PE X (.List es pos) (tDN X W (nLst f)) := imp_E (pe_lst h) fun σ H Q ⟨fr, F, ρ, n, r, n', R, e, k⟩ => by
  rcases M.bind_any e with ⟨z, e1, rfl⟩ | ⟨ds, n1, e1, h⟩
  · exact ⟨fr, F, ρ, n, .error z, n', R, e1, k⟩
  rcases r with z | d
  · exact (M.opt_err h).elim
  obtain ⟨h2, h3⟩ := M.opt_ok h
  subst h3
  split at h2
  · rename_i q
    cases h2
    exact ⟨fr, F, ρ, n, .ok ds, _, R, e1, fun F1 H1 vs R1 s1 d1 => ⟨by rw [d1.length]; exact of_decide_eq_true q, fun p hp => k F1 H1 vs R1 s1 d1 p hp⟩⟩
  · cases h2
def sOwnN (i : Nat) (f : EXs) : SX := fun ρ => M.bind (f ρ) fun ds => M.pure (.nx (ρ.set i (.own (.lst ds))))
theorem S_ownN {i : Nat} {y : Str} {px pos : Pos} {e : Expr} {f : EXs} (hN : X.N.Nodup) (hi : X.N[i]? = some y) (hx : Loc X.env.scope y) (he : PE X e (tDN X W f)) (hs : swapsWith e (some (.Name y px)) pos.line X.env = pure false := by rfl) (hf : X.fn y = true ∨ X.env.scope.names.lookup y = some .local := by first | exact .inl rfl | exact .inr rfl | assumption) :
    PDS X W (.Assign [.Name y px] e pos) (sOwnN i f) := imp_S (ps_set hN hi hx he hs hf) fun E σ H ⟨fr, F, ρ, n, r, n', R, e, k⟩ => by
  rcases M.bind_any e with ⟨z, e1, rfl⟩ | ⟨ds, n1, e1, h⟩
  · exact ⟨fr, F, ρ, n, .error z, n', R, e1, KS.x k⟩
  obtain ⟨q1, q2⟩ := M.pure_any h
  subst q1 q2
  exact ⟨fr, F, ρ, n, .ok ds, _, R, e1, fun F1 H1 vs R1 s1 d1 p hp => k F1 _ _ (R1.setOwn hp rfl ⟨vs, upd_same, d1⟩) s1⟩
end
end DL
end

section
set_option Elab.async false
set_option linter.all false
set_option autoImplicit false
set_option maxRecDepth 100000
set_option maxHeartbeats 1000000
namespace DL
open PySem PySem.Spec L2
/-! ### bool(x) -/
theorem bool_truthy {prog : Program} {w : World} (x : Value) : PySem.MeetsIn prog w (Builtin.«bool.__new__» ⟨[.type "bool", x], []⟩) (fun A R s => ∀ k, wpAny (model prog w) A.in1 (truthy x) (fun b s' => ∀ j, R (.ok (.ret (.bool b))) { s' with toks := s'.toks + j }) (fun e s' => R (.error e) s') { s with toks := s.toks + k }) :=
  .of_wp fun A R s h => by
    obtain ⟨hp, g, d, tk, os⟩ := s
    have f1 := F.conv_sub_bool
    have h0 : wpAny (model prog w) A.in1 (truthy x) (fun b s' => ∀ j, R (.ok (.ret (.bool b))) { s' with toks := s'.toks + j }) (fun e s' => R (.error e) s') ⟨hp, g, d, tk, os⟩ := h 0
    repeat (first | (with_reducible refine wpAny_bind (wpAny_mono h0 ?_ fun _ _ e => e)) | wp_step)
    rintro b s' q
    exact wpAny_pure ⟨_, rfl, q 0⟩
theorem call_bool_by {prog : Program} {w : World} {A : Around} {E : Value → Shared → Prop} {s : Shared} {x : Value} {Q : Value → Shared → Prop} (h : ∀ k, wpAny (model prog w) A.in1.in1 (truthy x) (fun b s' => ∀ j, Q (.bool b) { s' with toks := s'.toks + j }) E { s with toks := s.toks + k }) :
    wpAny (model prog w) A (call (.type "bool") [x]) Q E s :=
  callType_newIn F.called_bool F.newNe_bool (F.typeCall_bool_1 x) (F.newCall_bool_1 x) (fun obj => F.args_object_init_2 obj x) F.entry_bool_new (bool_truthy x) fun k => wpAny_mono (h k) (fun b s' q j => ⟨rfl, q j⟩) fun _ _ e => e
def dBoolT : List D → Option D
  | [.tup xs] => some (.bl (!xs.isEmpty))
  | [.lst xs] => some (.bl (!xs.isEmpty))
  | [.bl b] => some (.bl b)
  | _ => none
section
variable {X : Cx} {W : Wd} {pos : Pos}
def rBoolT (K : PySem.W.Frag) : List V → Hp → VK → Prop := fun xs H Q => (∃ p ys, xs = [.ref p] ∧ (SqL K H p ys ∨ SqT K H p ys) ∧ Q (.bl (!ys.isEmpty)) H) ∨ ∃ b, xs = [.bl b] ∧ Q (.bl b) H
theorem call_boolT : CallR X (.type "bool") (rBoolT X.K) := by
  intro pins s σ H xs us Q I r h
  have hl := line63
  have hs : sizeLine = 16777216 := sizeLine_eq
  rcases h with ⟨p, ys, rfl, hq, q⟩ | ⟨b, rfl, q⟩
  · obtain rfl := Vals.ref1 r
    rcases hq with hq | hq
    · refine call_bool_by fun k => ?_
      have I1 := I.tok (s.toks + k)
      obtain ⟨its, rv, pl, hz⟩ := I1.list hq
      have hlen := rv.length
      exact wpAny_truthy_list pl.isList (by simp only [List.size_toArray]; omega) fun j => ⟨.bl (!ys.isEmpty), H, I1.tok _, by rw [isEmpty_of rv]; rfl, q⟩
    · refine call_bool_by fun k => ?_
      have I1 := I.tok (s.toks + k)
      obtain ⟨its, rv, pl, hz⟩ := I1.tuple hq
      have hlen := rv.length
      exact PyProof.Rows.truthy_tuple pl (by simp only [List.size_toArray]; omega) fun j => ⟨.bl (!ys.isEmpty), H, I1.tok _, by rw [isEmpty_of rv]; rfl, q⟩
  · cases r with
    | cons r1 r2 =>
      cases r2
      cases r1
      exact call_bool_by fun k => wpAny_truthy_bool fun j => ⟨.bl b, H, I.tok _, rfl, q⟩
theorem q_boolT {K : PySem.W.Frag} : CallD K W (rBoolT K) dBoolT := by
  intro fr F H σ ρ n xs d vs Q R dx h k
  unfold dBoolT at h
  have em : ∀ {vs : List V} {ds : List D}, Dens K W fr.dr F vs ds → vs.isEmpty = ds.isEmpty := fun h => by cases h <;> rfl
  split at h
  · cases h
    cases dx with
    | cons h1 h2 =>
      cases h2
      cases h1 with
      | tup h3 h4 => exact .inl ⟨_, _, rfl, .inr (R.core.sub.sqT h3), by rw [em h4]; exact k F H _ R (Sub.refl _) (.bl _)⟩
  · cases h
    cases dx with
    | cons h1 h2 =>
      cases h2
      cases h1 with
      | lst h3 h4 => exact .inl ⟨_, _, rfl, .inl (SqL.of (R.core.sub _ _ h3)), by rw [em h4]; exact k F H _ R (Sub.refl _) (.bl _)⟩
  · cases h
    cases dx with
    | cons h1 h2 =>
      cases h2
      cases h1
      exact .inr ⟨_, rfl, k F H _ R (Sub.refl _) (.bl _)⟩
  · cases h
/-- bool(x), x an instance with an own __bool__ -/
theorem run_in2 {k : Nat} {f : Addr} {fd : FuncData} {ps : List Str} {sp : Sp} {pins : List (Addr × Obj)} {σ : St} {H : Hp} {s : Shared} {Q : VK} {us : List Value} {vs : List V} {E' : Value → Shared → Prop} (F : FnOk X.prog X.w X.K X.mg X.base (L2.CX X.prog X.w) k f fd ps sp) (hr : Room (k + 2) X.A) (hb : Binds X.K fd ps [])
    (I : Inv X pins σ H s) (r : Vals vs us) (h : sp vs H Q E0) : wpAny (model X.prog X.w) X.A.in1.in1 (call (.ref f) us) (EP X pins σ Q) E' s := by
  have hl : (us ++ []).length = ps.length := by rw [List.append_nil, ← r.length]; exact F.len _ _ _ _ h
  have b := hb s us I.kIn hl
  rw [List.append_nil] at b
  refine wpAny_call (codeAny_mono (F.run X.A.in1.in1 X.stack s H ⟨us, []⟩ us vs Q E0 hr.in1.in1 I.env0.in1.in1 b r h) ?_)
  rintro (e | fl) s' hq
  · obtain ⟨_, _, _, _, _, _, _, _, _, _, _, _, z⟩ := hq
    exact z.elim
  · cases fl with
    | ret u => exact I.after hq
    | next => exact hq.elim
    | brk => exact hq.elim
    | cont => exact hq.elim
def eBoolO (t : TX) : EX := fun ρ => M.bind (t ρ) fun b => M.pure (.bl b)
theorem d_boolO {c k : Nat} {fx : FX} {e : Expr} {f : EX} {p : Pos} (F : CalM X.prog X.w X.K X.mg X.base (W.cl c) "__bool__" k (spD X.K W fx 1)) (hr : Room (k + 2) X.A) (hg : Gl X "bool") (hm : X.mg "bool" = none) (ha : PD X W e f)
    (he : starEach [e] X.env = (false, eval e X.env) :: starEach [] X.env := by rfl) (hpl : (backTo pos (starEach [] X.env)).any (·.1) = false := by rfl) : PD X W (.Call (.Name "bool" p) [e] [] pos) (eBoolO (tOwn c fx f)) := by
  obtain ⟨fa, fd, ps, F, hmm, hbd⟩ := F
  constructor
  intro pins s σ H Q I ⟨fr, G, ρ, n, r, n', R, ev, kk⟩
  have h : tT X W (tOwn c fx f) σ H fun b H' => Q (.bl b) H' := by
    rcases M.bind_any ev with ⟨z, e1, rfl⟩ | ⟨b, n1, e1, h⟩
    · exact ⟨fr, G, ρ, n, .error z, n', R, e1, kk⟩
    · obtain ⟨h1, h2⟩ := M.pure_any h
      subst h1 h2
      exact ⟨fr, G, ρ, n, .ok b, _, R, e1, fun F1 H1 R1 s1 => kk F1 H1 _ R1 s1 (.bl _)⟩
  have h' := tOwn_of h
  have hc : CallR X (.type "bool") (fun xs H Q => ∃ x, xs = [x] ∧ (∃ p dx fs, x = .ref p ∧ H p = some (.ins (W.cl c) dx fs)) ∧ spD X.K W fx 1 [x] H (fun w H' => ∃ t, w = .bl t ∧ Q (.bl t) H') E0) := by
    rintro pins s σ H xs us Q I r ⟨x, rfl, ⟨q, dx, fs, rfl, hq⟩, sp⟩
    obtain rfl := Vals.ref1 r
    refine call_bool_by fun j => ?_
    have I1 := I.tok (s.toks + j)
    obtain ⟨mA, J, _⟩ := ins_get I1.hok hq
    obtain ⟨od, J, _⟩ := J.look
    obtain ⟨mm, hF⟩ := I1.fr
    refine PySem.W.truthy_K hF I1.ok.mod.kin J hmm.at_ hmm.fn (thn (run_in2 (us := [.ref q]) (vs := [.ref q]) F hr hbd I1 (.cons rfl .nil) sp) ?_)
    rintro w s3 ⟨z, H3, I3, rz, t, rfl, qz⟩ 
    have ew : w = Value.bool t := rz
    subst ew
    exact fun i => ⟨.bl t, H3, I3.tok _, rfl, qz⟩
  refine (pe_callTy hc hg hm rfl (pa_cons ha pa_nil he) (by decide) (by decide) he hpl).run pins s σ H Q I ?_
  obtain ⟨fr, G, ρ, n, r, n', R, ev, kk⟩ := h'
  refine ⟨fr, G, ρ, n, r, n', R, ev, ?_⟩
  cases r with
  | error z => exact kk
  | ok d => exact fun F1 H1 v R1 s1 d1 => ⟨_, rfl, kk F1 H1 v R1 s1 d1⟩
/-! ### try: g except C as n: return isinstance(n, C2) -/
def tsIs (K : PySem.W.Frag) (i : Nat) (C2 : Addr) (a : Addr) (cls : Value) (d : Option Addr) : TS := fun D σ H => ∃ Dc b, cls = .ref Dc ∧ d = none ∧ ExcC K Dc ∧ σ[i]? = some (some (.ref a)) ∧ PySem.W.kitOne K (.ref Dc) (.ref C2) = some b ∧ D.rt (.bl b) H
def sTryIs (i : Nat) (m q : Nat → Option Bool) (g : SX) : SX := fun ρ n => match g ρ n with
  | some (.error z, n1) => (match m z.c with
    | some true => (match q z.c, z.ks with
      | some t, [] => if i < ρ.length then some (.ok (.ret (.bl t)), n1) else none
      | _, _ => none)
    | some false => some (.error z, n1)
    | none => none)
  | r => r
theorem S_tryIs {i : Nat} {x n2 C2n : Str} {c : Value} {C2 : Addr} {body : List Stmt} {np pos pos' p0 p1 p2 p3 p4 : Pos} {m q : Nat → Option Bool} {g : SX} (hs : X.stack = X.env :: X.outer) (hf : X.env.frame = some X.env.locals) (hN : X.N.Nodup) (hi : X.N[i]? = some n2) (hln : X.env.kindOf n2 = some .local) (hc : Names X x c)
    (hm : ∀ i b, m i = some b → PySem.W.exmOne X.K (.ref (W.cl i)) c = some b) (hq : ∀ i b, q i = some b → ExcC X.K (W.cl i) ∧ PySem.W.kitOne X.K (.ref (W.cl i)) (.ref C2) = some b)
    (hg : Gl X "isinstance") (hmi : X.mg "isinstance" = none) (hgC : Gl X C2n) (hmC : X.mg C2n = some (.ref C2))
    (hb : ∀ (pn : List (Addr × Obj)) (xe : Value → Shared → Prop), PassesOwn (model X.prog X.w) X.A X.env xe → PSs (X.tr pn xe) body (tSx (X.tr pn xe) W g)) (hd : (C2n == ("__debug__" : Str)) = false := by decide) (hd1 : (n2 == ("__debug__" : Str)) = false := by decide) (hd2 : (n2 == ("__classdict__" : Str)) = false := by decide)
    (he : starEach [.Name n2 p1, .Name C2n p2] X.env = (false, eval (.Name n2 p1) X.env) :: starEach [.Name C2n p2] X.env := by rfl) (he2 : starEach [.Name C2n p2] X.env = (false, eval (.Name C2n p2) X.env) :: starEach [] X.env := by rfl) (hpl : (backTo p3 (starEach [.Name C2n p2] X.env)).any (·.1) = false := by rfl) :
    PDS X W (.Try body [.ExceptHandler (some (.Name x np)) (some n2) [.Return (some (.Call (.Name "isinstance" p0) [.Name n2 p1, .Name C2n p2] [] p3)) p4] pos'] [] [] pos) (sTryIs i m q g) := by
  have hv : Vis X.env.scope n2 := .inl hln
  refine imp_S (ps_try_as (Wout := Acc X) (tb := fun Wx => tSW X.K W Wx g) (ts := tsIs X.K i C2) hs hf hN hi hln hc takesAcc (fun Wx pn xe tk po => sw_of tk (hb pn xe po)) fun a oe cls d pn hz hfd => ?_) ?_
  · constructor
    rintro pins s σ H D I ⟨Dc, b, rfl, rfl, C, h1, h2, h3⟩
    refine (pss_one (ps_ret (pe_callB (call_isE C hz hfd) hg hmi rfl (pa_cons (pe_var hi hv hd1 hd2) (pa_cons (pe_glob (v := .ref C2) hgC hmC rfl hd) pa_nil he2) he) (by decide) (by decide) he hpl))).run pins s σ H D I ?_
    exact ⟨_, h1, .ref C2, .ref C2, b, rfl, fun u r => r, h2, h3⟩
  · rintro E σ H ⟨fr, F, ρ, n, r, n', R, e, k⟩
    unfold sTryIs at e
    split at e
    · rename_i z n1 eg
      refine ⟨fr, F, ρ, n, .error z, n1, R, eg, fun F1 H1 cls d R1 s1 xx => ?_⟩
      have ec : cls = .ref (W.cl z.c) := xx.1
      split at e
      · rename_i hz
        refine ⟨true, by rw [ec]; exact hm _ _ hz, fun _ a ha => ?_, fun q => nomatch q⟩
        split at e
        · rename_i t hk1 hk2
          split at e
          case isFalse => cases e
          rename_i hlt
          cases e
          obtain ⟨I1, I2⟩ := hq _ _ hk1
          refine ⟨_, t, ec, ?_, I1, ?_, I2, k F1 H1 _ R1.core s1 (.bl _)⟩
          · rcases xx.2 with z1 | ⟨_, _, _, z1, _⟩
            · exact z1.1
            · exact absurd hk2 z1
          · obtain ⟨ad, sl⟩ := R1.slots
            rw [get_set_self (by rw [sl.len]; exact hlt)]
        · cases e
      · rename_i hz
        cases e
        exact ⟨false, by rw [ec]; exact hm _ _ hz, (fun q => nomatch q), fun _ => k F1 H1 σ cls d R1.core s1 xx⟩
      · cases e
    · rename_i hne
      rcases r with z | o
      · exact absurd e (hne z n')
      · exact ⟨fr, F, ρ, n, .ok o, n', R, e, k⟩
end
end DL
end

section
set_option Elab.async false
set_option linter.all false
set_option autoImplicit false
set_option maxRecDepth 100000
set_option maxHeartbeats 1000000
namespace DL
open PySem PySem.Spec L2
theorem u1 {X : Cx} (h : X.A.units + 64 < cLine) : X.A.units + 1 < cLine := by omega
theorem u0 {X : Cx} (h : X.A.units + 64 < cLine) : X.A.units < cLine := by omega
def CalP (P : Program) (w : World) (K : PySem.W.Frag) (mg : Str → Option Value) (base : Heap) (C : Addr) (m : Str) (k : Nat) (sp : Sp) : Prop :=
  ∃ p g fd ps, FnOk P w K mg base (L2.CX P w) k g fd ps sp ∧ PropOf K C m p g ∧ Binds K fd ps []
section
variable {X : Cx} {W : Wd} {c k : Nat} {pos : Pos} {a b : Expr} {fa fb : EX} {fx : FX}
theorem c_own2 {op : Operator} {m : Str} (F : CalM X.prog X.w X.K X.mg X.base (W.cl c) m k (spD X.K W fx 2)) (hm : PySem.dunder op.info.2 = m) (hr : Room k X.A) (hc : PySem.W.selfFirst X.K (W.cl c) = true) (ha : PD X W a fa) (hb : PD X W b fb) :
    PD X W (.BinOp a op b pos) (eOwn2 c fx fa fb) := by
  subst hm
  exact d_own2 F hr hc ha hb
theorem c_prop {f : Str} (F : CalP X.prog X.w X.K X.mg X.base (W.cl c) f k (spD X.K W fx 1)) (hr : Room (k + 1) X.A) (cl : Cls X.K (W.cl c)) (ha : PD X W a fa)
    (hab : attributeBase a f X.env (eval a X.env) = eval a X.env := by rfl) : PD X W (.Attribute a f pos) (e1M (mOwn1 c fx) fa) := by
  obtain ⟨p, g, fd, ps, h1, h2, h3⟩ := F
  exact d_prop cl h2 h1 hr h3 ha hab
/-- len of a list of one's own -/
def eOwnLen (i : Nat) : EX := fun ρ => M.opt (match own? ρ i with | some (.lst ds) => some (.int ds.length) | _ => none)
theorem d_ownLen {i : Nat} {o : Expr} {p : Pos} (hg : Gl X "len") (hm : X.mg "len" = none) (ho : PE X o (tVar i)) (he : starEach [o] X.env = (false, eval o X.env) :: starEach [] X.env := by rfl) (hpl : (backTo pos (starEach [] X.env)).any (·.1) = false := by rfl) : PD X W (.Call (.Name "len" p) [o] [] pos) (eOwnLen i) :=
  imp_E (pe_callB call_len hg hm rfl (pa_cons ho pa_nil he) (by decide) (by decide) he hpl) fun σ H Q ⟨fr, F, ρ, n, r, n', R, e, k⟩ => by
    rcases r with z | d
    · exact (M.opt_err e).elim
    obtain ⟨h1, h2⟩ := M.opt_ok e
    subst h2
    split at h1
    · cases h1
      obtain ⟨ad, s⟩ := R.slots
      obtain ⟨a1, a2, a3, a4, ⟨us, a5, a6⟩, a7⟩ := s.own i _ (own_some ‹_›)
      refine ⟨_, a1, _, _, rfl, .inl ⟨_, SqL.of a5, rfl⟩, ?_⟩
      rw [a6.length]
      exact k F H _ R (Sub.refl _) (.int _)
    · cases h1
end
end DL
end

section
set_option Elab.async false
set_option linter.all false
set_option autoImplicit false
set_option maxRecDepth 100000
set_option maxHeartbeats 1000000
namespace DL
open PySem PySem.Spec L2 PyProof.Rows
section
variable {X : Cx} {W : Wd}
/-- y = {k: v for ..}, one line -/
theorem ps_setDcD {i : Nat} {y : Str} {py : Pos} {kx vx tg iter : Expr} {ifs : List Expr} {scope : Scope} {own : List (Str × Nat)} {pos spos : Pos} {wi : TI} {g : TG} {tt : TT} {tk tv : TE}
    (hc : X.calm = true) (hN : X.N.Nodup) (hy : X.N[i]? = some y) (hyl : X.env.scope.names.lookup y = some .local)
    (hsw : swapsWith (.DictComp kx vx [⟨tg, iter, ifs, 0⟩] scope pos) (some (.Name y py)) spos.line X.env = pure true)
    (hi : PI X tg iter wi) (ok : BlkOk X.N X.env.scope scope own)
    (hg : ∀ (s : Shared) (H : Hp) (C : Addr) (cl : List (Str × Addr)) (fp : List Addr),
      PG (X.blk s H scope (compEnvC scope cl C X.env) fp) tg g)
    (ht : ∀ (s : Shared) (H : Hp) (C : Addr) (cl : List (Str × Addr)) (fp : List Addr),
      PTs (X.blk s H scope (compEnvC scope cl C X.env) fp) ifs tt)
    (hk : ∀ (s : Shared) (H : Hp) (C : Addr) (cl : List (Str × Addr)) (fp : List Addr),
      PE (X.blk s H scope (compEnvC scope cl C X.env) fp) kx tk)
    (he : ∀ (s : Shared) (H : Hp) (C : Addr) (cl : List (Str × Addr)) (fp : List Addr),
      PE (X.blk s H scope (compEnvC scope cl C X.env) fp) vx tv)
    (hs : ∀ x, foldedSetIterable iter X.env x = pure x) :
    PS X (.Assign [.Name y py] (.DictComp kx vx [⟨tg, iter, ifs, 0⟩] scope pos) spos) (tAsg (tDc wi g tt tk tv (own.map (·.2))) (gName i)) := by
  constructor
  intro pins s σ H D I h
  rw [exec_Assign_Name_used _ _ _ _ hsw]
  refine wpAny_bind (wpAny_standAt (wpAny_bind ?_))
  have h9 : tDc wi g tt tk tv (own.map (·.2)) σ H (fun x H1 => gName i x σ H1 D.nx) := h
  have core := dc_core (pos := pos) (pos' := firstIterPos [⟨tg, iter, ifs, 0⟩] pos) (use := some (assign (.Name y py) X.env)) (Qf := fun _ s' => SP X pins D .next s') hc hN I hi ok hg ht hk he hs h9 ?_
  · exact wpAny_bind (thn core fun _ s' hq => wpAny_pure (wpAny_pure hq))
  intro L C s' m H' I' q hn f
  show wpAny _ _ (assign (.Name y py) X.env (.ref L)) _ _ _
  refine wpAny_assign_Name (store_ok2 (v := V.ref L) I' hN hy (.inl hyl) rfl ?_ (.inr hyl))
  rintro s2 I2 ⟨a, sb, ha⟩
  obtain ⟨f0, f1, f2, f3, f4, f5⟩ := f
  have hne : C ≠ a := by
    rcases ha with z | z
    · subst z; exact f1
    · intro e; exact f4 y a z e.symm
  refine ⟨m, hn.sameBut sb hne, fun h3 sb3 => ⟨_, H', ?_, q⟩⟩
  exact I2.turned (t' := s2.toks) (fun b o hb e => (sb3.2 b hb).trans e) f0 f1 f3 f4 f5
theorem sw_trueD {kx vx : Expr} {gs : List Comprehension} {scope : Scope} {pos py : Pos} {y : Str} {l : Nat} {env : PySem.Env} (hk : env.scope.kind = .function) (hy : env.scope.names.lookup y = some .local) (hl : (py.line == pos.line) = true)
    (ha : (scope.names.any fun (n, k) => n == y && (k == .local || k == .cell)) = false) : swapsWith (.DictComp kx vx gs scope pos) (some (.Name y py)) l env = pure true := by
  have e1 : env.kindOf y = some .local := hy
  have e2 : env.blockKind = .function := by
    unfold PySem.Env.blockKind
    rw [hk]; rfl
  unfold swapsWith
  simp only [e2, e1, ha, Expr.pos, hl]
  rfl
theorem S_setDComp {vs : List Nat} {i : Nat} {y : Str} {py : Pos} {kx vx tg iter : Expr} {ifs : List Expr} {scope : Scope} {own : List (Str × Nat)} {pos spos : Pos} {t : TG} {g : GX} {is : List Nat} {it : IX} {tt : TX} {fk fv : EX} (hc : X.calm = true) (hN : X.N.Nodup) (hy : X.N[i]? = some y) (hyl : X.env.scope.names.lookup y = some .local)
    (hsw : swapsWith (.DictComp kx vx [⟨tg, iter, ifs, 0⟩] scope pos) (some (.Name y py)) spos.line X.env = pure true) (hi : PDI X W tg iter it) (ok : BlkOk X.N X.env.scope scope own)
    (hg : ∀ (s : Shared) (H : Hp) (C : Addr) (cl : List (Str × Addr)) (fp : List Addr), PG (X.blk s H scope (compEnvC scope cl C X.env) fp) tg t) (hq : GOk X.K W t g is) (hv : ∀ i ∈ is, i ∈ vs)
    (ht : ∀ (s : Shared) (H : Hp) (C : Addr) (cl : List (Str × Addr)) (fp : List Addr), PTs (X.blk s H scope (compEnvC scope cl C X.env) fp) ifs (tT (X.blk s H scope (compEnvC scope cl C X.env) fp) W tt))
    (hk : ∀ (s : Shared) (H : Hp) (C : Addr) (cl : List (Str × Addr)) (fp : List Addr), PD (X.blk s H scope (compEnvC scope cl C X.env) fp) W kx fk)
    (he : ∀ (s : Shared) (H : Hp) (C : Addr) (cl : List (Str × Addr)) (fp : List Addr), PD (X.blk s H scope (compEnvC scope cl C X.env) fp) W vx fv) (hs : ∀ x, foldedSetIterable iter X.env x = pure x := by intro _; rfl) (hvs : own.map (·.2) = vs := by rfl) :
    PDS X W (.Assign [.Name y py] (.DictComp kx vx [⟨tg, iter, ifs, 0⟩] scope pos) spos) (sAsg (gV i) (eDComp vs g it tt fk fv)) := by
  subst hvs
  refine imp_S (ps_setDcD (tt := tTk X.K W tt) (tk := tDk X.K W fk) (tv := tDk X.K W fv) hc hN hy hyl hsw hi ok hg (fun s H C cl fp => tsk (ht s H C cl fp)) (fun s H C cl fp => dk (hk s H C cl fp)) (fun s H C cl fp => dk (he s H C cl fp)) hs) fun E σ H ⟨fr, F, ρ, n, r, n', R, e, k⟩ => ?_
  rcases r with z | o
  · refine d_tDc hq hv (R.dE e (KS.x k) fun _ _ _ _ _ _ h _ _ _ => ?_)
    rcases M.bind_err h with h | ⟨_, _, _, h⟩
    · exact (M.opt_err h).elim
    · exact (M.pure_err h).elim
  obtain ⟨x, n1, e1, ha⟩ := M.bind_ok e
  obtain ⟨ρ', n2, e2, h⟩ := M.bind_ok ha
  obtain ⟨h1, h2⟩ := M.pure_ok h
  obtain ⟨h3, h4⟩ := M.opt_ok e2
  clear ha h
  subst h4
  subst h1 h2
  refine d_tDc hq hv ⟨fr, F, ρ, n, .ok x, _, R, e1, fun F1 H1 v R1 s1 d1 => ?_⟩
  cases h3
  exact k F1 H1 _ (R1.set d1) s1
end
theorem kit_self {K : PySem.W.Frag} {C : Addr} : PySem.W.kitOne K (.ref C) (.ref C) = some true := if_pos (beq_self_eq_true _)
theorem kit_sub {K : PySem.W.Frag} {C : Addr} {t : Value} (hd : PySem.W.hasDictIn K C = true) (ht : PySem.W.typeIn K (.ref C) = some (.type "type")) (h : PySem.W.subIn K t (.ref C) = some true) : PySem.W.kitOne K t (.ref C) = some true := by
  obtain ⟨cd, hc, _⟩ := PySem.W.any_some hd
  have e : ((PySem.W.clsIn K C).isSome && PySem.W.typeIn K (.ref C) == some (.type "type")) = true := by
    rw [hc, ht]; rfl
  unfold PySem.W.kitOne
  split
  · rfl
  · show (if ((PySem.W.clsIn K C).isSome && PySem.W.typeIn K (.ref C) == some (.type "type")) = true then PySem.W.subIn K t (.ref C) else none) = some true
    rw [if_pos e]; exact h
end DL
end

section
set_option Elab.async false
set_option linter.all false
set_option autoImplicit false
set_option maxRecDepth 100000
set_option maxHeartbeats 1000000
/-! a lambda without parameters, handed to a def that tells whether it is refused -/
namespace DL
open PySem PySem.Spec L2
theorem Rel.extN {K : PySem.W.Frag} {W : Wd} {fr : Fr} {F H H1 : Hp} {σ : St} {ρ : Env} {n : Int} (r : Rel K W fr F H σ ρ n) (x : LamX.ExtN H H1) (t : LamX.Tabs W.tb H1) : Rel K W fr F H1 σ ρ n := by
  have c := r.core
  refine r.keep ⟨fun a o q => x a o (c.sub a o q) (c.ntF a o q), fun a o q1 q2 q3 => ?_, c.f0, c.new, fun a o q => ?_, fun a q => ?_, c.ntF, t⟩ (Sub.refl _) (fun a o q nt _ => x a o q nt) fun a o _ _ q => q
  · have h := c.base a o q1 q2 q3
    obtain ⟨o', q, nt⟩ := c.there a o q1
    rw [h] at q; cases q
    exact x a o h nt
  · obtain ⟨o', q', nt⟩ := c.there a o q
    exact ⟨o', x a o' q' nt, nt⟩
  · obtain ⟨q1, q2, q3⟩ := c.draw a q
    exact ⟨q1, x a _ q2 (fun _ z => by cases z), q3⟩
/-- an expression's reading, where what is raised is wished for by E -/
def tDE (K : PySem.W.Frag) (W : Wd) (E : XK) (f : EX) : TE := fun σ H Q => ∃ fr F ρ n r n', Rel K W fr F H σ ρ n ∧ f ρ n = some (r, n') ∧
  Res (fun d => ∀ F' H' v, Rel K W fr F' H' σ ρ n' → Sub F F' → Den K W fr.dr F' v d → Q v H') (fun z => ∀ F' H' cls d, Rel K W fr F' H' σ ρ n' → Sub F F' → XDen K W fr.dr F' H' z cls d → E cls d H') r
/-- refused? -/
def eLam (m : Nat → Option Bool) (f : EX) : EX := fun ρ n => match f ρ n with
  | some (.ok _, n1) => some (.ok (.bl false), n1)
  | some (.error z, n1) => (match m z.c with
    | some true => some (.ok (.bl true), n1)
    | _ => none)
  | none => none
def TTr (K : PySem.W.Frag) (c : Value) : (XK → Hp → VK → Prop) → Hp → VK → Prop := fun tl H Q =>
  ∀ E Q', (∀ cls d H', PySem.W.exmOne K cls c = some true → Q (.bl true) H' → E cls d H') → (∀ v H', Q (.bl false) H' → Q' v H') → tl E H Q'
theorem gives_refused {X : Cx} {Ng : List Str} {x : Str} {sg : Scope} {g : Addr} {cdg : Value} {bg : List Stmt} {a q ex : Str} {c : Value} {p1 p2 p3 p4 p5 p6 p7 p8 : Pos} {k1 k2 : Nat}
    (hbg : bg = [.Try [.Expr (.Call (.Name a p1) [] [] p2) p3] [.ExceptHandler (some (.Name ex p4)) none [.Return (some (.Constant (.bool true) k1 p5)) p6] p7] [] [] p8, .Return (some (.Constant (.bool false) k2 p1)) p2]) (hc : ∀ s H, Names (cxOf C8.CX0 X.prog X.w X.K X.mg X.base Ng x sg g cdg X.A X.stack s H C8.E0).nox ex c) : LamX.GivesTo X Ng x sg g cdg bg a q (TTr X.K c) := by
  intro f c' s H Q tl call hc' tt
  subst hbg
  refine ⟨_, pss_cons (ps_try_only (Wout := fun _ _ _ _ => False) (c := c) rfl rfl (hc s H) LamX.takes0 (fun Wx pn xe tk po => pss_one (ps_expr (call Wx pn xe (fun cls d H' => ∀ σ', Wx cls d σ' H') p1 p2 tk fun cls d σ' H' k => k σ') rfl)) fun a oe cls d pn _ _ => pss_one (ps_ret pe_bl)) (pss_one (ps_ret pe_bl)), ?_⟩
  refine ⟨rfl, hc', tt _ _ (fun cls d H' h1 h2 σ' => ⟨true, h1, fun _ _ _ => h2, fun z => nomatch z⟩) fun v H' h => h⟩
theorem lam_body {X : Cx} {W : Wd} {A : Around} {outer : List PySem.Env} {s : Shared} {H : Hp} {E : XK} {scope : Scope} {f c' : Addr} {body : Expr} {g : EX} (h : PD (LamX.lamCx X A outer s H E scope f c') W body g) : PE (LamX.lamCx X A outer s H E scope f c') body (tDE X.K W E g) :=
  imp_E h fun σ H1 Q ⟨fr, F, ρ, n, r, n', R, e, k⟩ => by
    refine ⟨fr, F, ρ, n, r, n', R, e, ?_⟩
    cases r with
    | ok d => exact k
    | error z => exact fun F' H' cls d R' s' xd => acc_of (E := E) rfl rfl rfl rfl (k F' H' cls d R' s' xd)
theorem d_lam {X : Cx} {W : Wd} {x a : Str} {g c P : Addr} {k : Nat} {pg : Arguments} {bg : List Stmt} {sg : Scope} {dV kV doc pm cdv ct oc cx : Value} {an od : Option Addr} {osl : Array (Option Value)} {Ng : List Str} {params : Arguments} {body : Expr} {scope : Scope} {p lpos pos : Pos} {m : Nat → Option Bool} {f : EX}
    (hg : Gl X x) (hm : X.mg x = some (.ref g)) (hk : PySem.W.keepIn X.K (.ref g) = true) (lk : X.K.lookup g = some ⟨oc, od, .func (PySem.W.fnOf x x pg bg sg dV kV doc pm an cdv ct), osl⟩) (hcg : PySem.W.codeIn X.K cdv x = true)
    (hb : Binds X.K (PySem.W.fnOf x x pg bg sg dV kV doc pm an cdv ct) [a] []) (Sg : FnScope Ng [a] sg) (hNg : Ng[0]? = some a) (hva : Vis sg a) (hG : LamX.GivesTo X Ng x sg g cdv bg a (X.env.qual ++ ("<lambda>" : Str)) (TTr X.K cx))
    (TB : LamX.TabB X.base X.mg c P) (hcode : X.env.code = .ref c) (hT : W.tb = [(P, X.env.qual ++ ("<lambda>" : Str))]) (hr : Room (k + 2) X.A) (L : LamX.LamS X.env.scope scope) (hdef : defaultsOf params X.env = ([], []))
    (hbind : ∀ (q : Str) (cl : List (Str × Addr)) (pm cv ctv : Value), bindArgs (PySem.W.kla_fn "<lambda>" q params body scope cl pm cv ctv) ⟨[], []⟩ = pure []) (hmm : ∀ i b, m i = some b → PySem.W.exmOne X.K (.ref (W.cl i)) cx = some b)
    (hbody : ∀ (A : Around) (outer : List PySem.Env) (s : Shared) (H : Hp) (E : XK) (f' c' : Addr), Room k (A.deeper (LamX.lamEnv X scope s.heap.objs.size f' c')) → PD (LamX.lamCx X A outer s H E scope f' c') W body f) (h1 : (x == ("__debug__" : Str)) = false := by decide) (h2 : (a == ("__debug__" : Str)) = false := by decide) (h3 : (a == ("__classdict__" : Str)) = false := by decide) :
    PD X W (.Call (.Name x p) [.Lambda params body scope lpos] [] pos) (eLam m f) := by
  refine imp_E (LamX.pe_lamcall (TT := TTr X.K cx) (t := fun E => tDE X.K W E f) (T := W.tb) hg hm hk lk hcg hb Sg hNg hva hG TB hcode (by rw [hT]; exact List.mem_singleton.mpr rfl) (fun p hp _ => by rw [hT] at hp; rw [List.mem_singleton.mp hp]) hr L hdef hbind (fun A outer s H E f' c' r => lam_body (hbody A outer s H E f' c' r)) h1 h2 h3) ?_
  rintro σ H Q ⟨fr, F, ρ, n, r, n', R, e, kk⟩
  refine ⟨R.core.tabs, fun H1 x1 t1 => ?_⟩
  have R1 := R.extN x1 t1
  intro E Q' hE hQ
  unfold eLam at e
  split at e
  · rename_i d n1 e1
    cases e
    exact ⟨fr, F, ρ, n, .ok d, n', R1, e1, fun F' H' v R' s' _ => hQ v H' (kk F' H' (.bl false) R' s' (.bl false))⟩
  · rename_i z n1 e1
    split at e
    · rename_i hz
      cases e
      refine ⟨fr, F, ρ, n, .error z, n', R1, e1, fun F' H' cls d R' s' xd => hE cls d H' ?_ (kk F' H' (.bl true) R' s' (.bl true))⟩
      have ec : cls = .ref (W.cl z.c) := xd.1
      rw [ec]
      exact hmm _ _ hz
    · cases e
  · cases e
end DL
end

section
set_option Elab.async false
set_option linter.all false
set_option autoImplicit false
set_option maxRecDepth 100000
set_option maxHeartbeats 1000000
/-! xs += ys; min, max of ints; how many different ints -/
namespace DL
open PySem PySem.Spec L2
section
variable {X : Cx} {W : Wd}
theorem set_eqv {α : Type} {l : List α} {i : Nat} {x : α} (h : l[i]? = some x) : l.set i x = l := by
  apply List.ext_getElem?
  intro j
  by_cases c : i = j
  · subst c
    rw [h, List.getElem?_set_self (List.getElem?_eq_some_iff.mp h).1]
  · rw [List.getElem?_set_ne c]
/-- x += e, lists, x one's own -/
def uExt (d : D) : D → Option D
  | .lst xs => match d with
    | .lst ys => if xs.length + ys.length ≤ sizeLine then some (.lst (xs ++ ys)) else none
    | _ => none
  | _ => none
def sExt (i : Nat) (fx : EX) : SX := fun ρ => M.bind (M.opt (ownLst i ρ)) fun _ => sUp i uExt fx ρ
theorem S_ext {i : Nat} {y : Str} {e : Expr} {fx : EX} {p pos : Pos} (hN : X.N.Nodup) (hi : X.N[i]? = some y) (hx : Loc X.env.scope y) (he : PD X W e fx) (hf : X.fn y = true ∨ X.env.scope.names.lookup y = some .local := by first | exact .inl rfl | exact .inr rfl | assumption) : PDS X W (.AugAssign (.Name y p) .Add e pos) (sExt i fx) := imp_S (ps_aug hN hi hx he (iop_ext : OpR X (inplaceOp .Add) rExt2) hf) fun E σ H ⟨fr, F, ρ, n, r, n', R, e, k⟩ => by
  rcases M.bind_any e with ⟨z, e0, rfl⟩ | ⟨ds0, n0, e0, e9⟩
  · exact (M.opt_err e0).elim
  clear e
  have e := e9
  clear e9
  obtain ⟨q0, q1⟩ := M.opt_ok e0
  subst q1
  obtain ⟨zs0, q0⟩ := ownLst_some q0
  obtain ⟨ad0, s0⟩ := R.slots
  obtain ⟨z1, z2, z3, z4, z5, z7⟩ := s0.own i _ q0
  refine ⟨_, z1, ?_⟩
  rcases r with z | o
  · refine R.dE e (KS.x k) fun _ _ _ _ _ _ h _ _ _ => ?_
    rcases M.bind_err h with h | ⟨_, _, _, h⟩
    · exact (M.opt_err h).elim
    · exact (M.pure_err h).elim
  obtain ⟨d, a, b, e1, hi, e3, rfl⟩ := sUp_ok e
  unfold uExt at e3
  cases a with
  | lst ds =>
    cases d with
    | lst ys =>
      have e3 : (if ds.length + ys.length ≤ sizeLine then some (D.lst (ds ++ ys)) else none) = some b := e3
      split at e3
      · rename_i q
        cases e3
        refine ⟨fr, F, ρ, _, .ok _, _, R, e1, fun F1 H1 v R1 s1 d1 => ?_⟩
        obtain ⟨ad, s⟩ := R1.slots
        obtain ⟨a1, a2, a3, a4, ⟨us, a5, a6⟩, a7⟩ := s.own i _ hi
        have ea : ad i = ad0 i := by rw [a1] at z1; injection z1 with z1; injection z1 with z1; injection z1
        cases d1 with
        | lst b1 b2 =>
          rename_i l vs
          refine ⟨ad i, l, us, vs, by rw [ea], rfl, a5, R1.core.sub _ _ b1, by rw [a6.length, b2.length]; exact q, ?_⟩
          have ch := R1.change s hi (o := .lst (us ++ vs)) (d' := .lst (ds ++ ys)) ⟨us ++ vs, upd_same, a6.append b2⟩ rfl
          show E.nx (σ.set i (some (.ref (ad i)))) _
          rw [set_eqv a1]
          exact k F1 _ _ ch s1
      · cases e3
    | _ => cases e3
  | _ => cases e3
/-- min, max of a list of ints -/
def lstI : List D → Option (List Int)
  | [.lst ds] => dInts ds
  | _ => none
def minI : List Int → Option Int
  | [] => none
  | a :: r => some (r.foldl (fun m y => if y < m then y else m) a)
def maxI : List Int → Option Int
  | [] => none
  | a :: r => some (r.foldl (fun m y => if m < y then y else m) a)
def dMinL (xs : List D) : Option D := (lstI xs).bind fun ns => (minI ns).map D.int
def dMaxL (xs : List D) : Option D := (lstI xs).bind fun ns => (maxI ns).map D.int
theorem fold_min : ∀ (r : List Int) (a : Int), (r.foldl (fun m y => if y < m then y else m) a = a ∨ r.foldl (fun m y => if y < m then y else m) a ∈ r) ∧ r.foldl (fun m y => if y < m then y else m) a ≤ a ∧ ∀ y ∈ r, r.foldl (fun m y => if y < m then y else m) a ≤ y
  | [], a => ⟨.inl rfl, Int.le_refl _, fun _ h => absurd h List.not_mem_nil⟩
  | b :: r, a => by
    obtain ⟨h1, h2, h3⟩ := fold_min r (if b < a then b else a)
    rw [List.foldl_cons]
    have le : (if b < a then b else a) ≤ a ∧ (if b < a then b else a) ≤ b := by split <;> omega
    refine ⟨?_, by omega, fun y hy => ?_⟩
    · rcases h1 with h | h
      · rw [h]
        split
        · exact .inr List.mem_cons_self
        · exact .inl rfl
      · exact .inr (List.mem_cons_of_mem _ h)
    · rcases List.mem_cons.mp hy with rfl | hy
      · omega
      · exact h3 y hy
theorem fold_max : ∀ (r : List Int) (a : Int), (r.foldl (fun m y => if m < y then y else m) a = a ∨ r.foldl (fun m y => if m < y then y else m) a ∈ r) ∧ a ≤ r.foldl (fun m y => if m < y then y else m) a ∧ ∀ y ∈ r, y ≤ r.foldl (fun m y => if m < y then y else m) a
  | [], a => ⟨.inl rfl, Int.le_refl _, fun _ h => absurd h List.not_mem_nil⟩
  | b :: r, a => by
    obtain ⟨h1, h2, h3⟩ := fold_max r (if a < b then b else a)
    rw [List.foldl_cons]
    have le : a ≤ (if a < b then b else a) ∧ b ≤ (if a < b then b else a) := by split <;> omega
    refine ⟨?_, by omega, fun y hy => ?_⟩
    · rcases h1 with h | h
      · rw [h]
        split
        · exact .inr List.mem_cons_self
        · exact .inl rfl
      · exact .inr (List.mem_cons_of_mem _ h)
    · rcases List.mem_cons.mp hy with rfl | hy
      · omega
      · exact h3 y hy
theorem minI_ok {ns : List Int} {m : Int} (h : minI ns = some m) : 0 < ns.length ∧ m ∈ ns ∧ ∀ y ∈ ns, m ≤ y := by
  cases ns with
  | nil => cases h
  | cons a r =>
    obtain ⟨h1, h2, h3⟩ := fold_min r a
    injection h with h
    rw [h] at h1 h2 h3
    refine ⟨by simp, ?_, fun y hy => ?_⟩
    · rcases h1 with h1 | h1
      · rw [h1]; exact List.mem_cons_self
      · exact List.mem_cons_of_mem _ h1
    · rcases List.mem_cons.mp hy with rfl | hy
      · exact h2
      · exact h3 y hy
theorem maxI_ok {ns : List Int} {m : Int} (h : maxI ns = some m) : 0 < ns.length ∧ m ∈ ns ∧ ∀ y ∈ ns, y ≤ m := by
  cases ns with
  | nil => cases h
  | cons a r =>
    obtain ⟨h1, h2, h3⟩ := fold_max r a
    injection h with h
    rw [h] at h1 h2 h3
    refine ⟨by simp, ?_, fun y hy => ?_⟩
    · rcases h1 with h1 | h1
      · rw [h1]; exact List.mem_cons_self
      · exact List.mem_cons_of_mem _ h1
    · rcases List.mem_cons.mp hy with rfl | hy
      · exact h2
      · exact h3 y hy
theorem lstI_ok {K : PySem.W.Frag} {dr : Option Addr} {F : Hp} {xs : List D} {ns : List Int} {vs : List V} (d : Dens K W dr F vs xs) (h : lstI xs = some ns) : ∃ a, vs = [.ref a] ∧ F a = some (.lst (ns.map V.int)) := by
  unfold lstI at h
  split at h
  · cases d with
    | cons h1 h2 =>
      cases h2
      cases h1 with
      | lst h3 h4 => exact ⟨_, rfl, by rw [← ints_of h4 h]; exact h3⟩
  · cases h
theorem q_minL {K : PySem.W.Frag} : CallD K W (rMin K) dMinL := by
  intro fr F H σ ρ n xs d vs Q R dx h k
  unfold dMinL at h
  cases e : lstI xs with
  | none => rw [e] at h; cases h
  | some ns =>
    rw [e] at h
    cases e2 : minI ns with
    | none => rw [Option.bind_some, e2] at h; cases h
    | some m0 =>
      rw [Option.bind_some, e2] at h
      cases h
      obtain ⟨a, rfl, hF⟩ := lstI_ok dx e
      obtain ⟨h1, h2, h3⟩ := minI_ok e2
      refine ⟨a, ns, rfl, SqL.of (R.core.sub _ _ hF), h1, fun m hm hl => ?_⟩
      have : m = m0 := Int.le_antisymm (hl _ h2) (h3 _ hm)
      rw [this]
      exact k F H _ R (Sub.refl _) (.int _)
theorem q_maxL {K : PySem.W.Frag} : CallD K W (rMax K) dMaxL := by
  intro fr F H σ ρ n xs d vs Q R dx h k
  unfold dMaxL at h
  cases e : lstI xs with
  | none => rw [e] at h; cases h
  | some ns =>
    rw [e] at h
    cases e2 : maxI ns with
    | none => rw [Option.bind_some, e2] at h; cases h
    | some m0 =>
      rw [Option.bind_some, e2] at h
      cases h
      obtain ⟨a, rfl, hF⟩ := lstI_ok dx e
      obtain ⟨h1, h2, h3⟩ := maxI_ok e2
      refine ⟨a, ns, rfl, SqL.of (R.core.sub _ _ hF), h1, fun m hm hl => ?_⟩
      have : m = m0 := Int.le_antisymm (h3 _ hm) (hl _ h2)
      rw [this]
      exact k F H _ R (Sub.refl _) (.int _)
/-- len(set(e)): ints, no two alike -/
def dLenSet : D → Option D
  | .lst ds => match dInts ds with
    | some ns => if ns.length < 64 ∧ ns.Nodup then some (.int ns.length) else none
    | none => none
  | _ => none
theorem d_lenSet {a : Expr} {fa : EX} {p p2 q pos : Pos} (hg : Gl X "len") (hm : X.mg "len" = none) (hg2 : Gl X "set") (hm2 : X.mg "set" = none) (ha : PD X W a fa) (hc : X.calm = true := by rfl) (na : starEach [a] X.env = (false, eval a X.env) :: starEach [] X.env := by rfl) : PD X W (.Call (.Name "len" p) [.Call (.Name "set" p2) [a] [] q] [] pos) (e1 dLenSet fa) := imp_E (RZ.pe_lenSetI hg hm hg2 hm2 ha hc na) fun σ H Q ⟨fr, F, ρ, n, r, n', R, e, k⟩ => by
  rcases r with z | o
  · exact R.dE1 e k
  obtain ⟨x, n1, e1, h⟩ := M.bind_ok e
  obtain ⟨h1, h2⟩ := M.opt_ok h
  subst h2
  refine ⟨fr, F, ρ, n, .ok x, _, R, e1, fun F1 H1 v R1 s1 d1 => ?_⟩
  unfold dLenSet at h1
  split at h1
  · split at h1
    · split at h1
      · rename_i ns q1 q2
        cases h1
        cases d1 with
        | lst b1 b2 =>
          have := ints_of b2 q1
          subst this
          exact ⟨_, ns, rfl, SqL.of (R1.core.sub _ _ b1), q2.2, by have := q2.1; omega, k F1 H1 _ R1 s1 (.int _)⟩
      · cases h1
    · cases h1
  · cases h1
end
end DL
end

section
set_option Elab.async false
set_option linter.all false
set_option autoImplicit false
set_option maxRecDepth 100000
set_option maxHeartbeats 1000000
/-! a def that tells whether a deed is refused, as a fact; the end of a law with lambdas -/
namespace DL
open PySem PySem.Spec L2
open PyProof.Rows (envOfC)
structure LamF (K : PySem.W.Frag) (mg : Str → Option Value) (x a ex : Str) (cx : Value) : Prop where
  ex : ∃ (g : Addr) (pg : Arguments) (bg : List Stmt) (sg : Scope) (dV kV doc pm cdv ct oc : Value) (an od : Option Addr) (osl : Array (Option Value)) (Ng : List Str) (p1 p2 p3 p4 p5 p6 p7 p8 p9 pa : Pos) (k1 k2 : Nat),
    mg x = some (.ref g) ∧ PySem.W.keepIn K (.ref g) = true ∧ K.lookup g = some ⟨oc, od, .func (PySem.W.fnOf x x pg bg sg dV kV doc pm an cdv ct), osl⟩ ∧ PySem.W.codeIn K cdv x = true ∧ Binds K (PySem.W.fnOf x x pg bg sg dV kV doc pm an cdv ct) [a] [] ∧ FnScope Ng [a] sg ∧ Ng[0]? = some a ∧ Vis sg a ∧
    bg = [.Try [.Expr (.Call (.Name a p1) [] [] p2) p3] [.ExceptHandler (some (.Name ex p4)) none [.Return (some (.Constant (.bool true) k1 p5)) p6] p7] [] [] p8, .Return (some (.Constant (.bool false) k2 p9)) pa] ∧ (envOfC x sg 0 0 .none).kindOf ex = some .globalImplicit ∧ mg ex = some cx ∧ (ex == ("__debug__" : Str)) = false ∧ (x == ("__debug__" : Str)) = false ∧ (a == ("__debug__" : Str)) = false ∧ (a == ("__classdict__" : Str)) = false
theorem gives_refused' {X : Cx} {Ng : List Str} {x : Str} {sg : Scope} {g : Addr} {cdg : Value} {bg : List Stmt} {a q ex : Str} {c : Value} {p1 p2 p3 p4 p5 p6 p7 p8 p9 pa : Pos} {k1 k2 : Nat}
    (hbg : bg = [.Try [.Expr (.Call (.Name a p1) [] [] p2) p3] [.ExceptHandler (some (.Name ex p4)) none [.Return (some (.Constant (.bool true) k1 p5)) p6] p7] [] [] p8, .Return (some (.Constant (.bool false) k2 p9)) pa]) (hc : ∀ s H, Names (cxOf C8.CX0 X.prog X.w X.K X.mg X.base Ng x sg g cdg X.A X.stack s H C8.E0).nox ex c) : LamX.GivesTo X Ng x sg g cdg bg a q (TTr X.K c) := by
  intro f c' s H Q tl call hc' tt
  subst hbg
  refine ⟨_, pss_cons (ps_try_only (Wout := fun _ _ _ _ => False) (c := c) rfl rfl (hc s H) LamX.takes0 (fun Wx pn xe tk po => pss_one (ps_expr (call Wx pn xe (fun cls d H' => ∀ σ', Wx cls d σ' H') p1 p2 tk fun cls d σ' H' k => k σ') rfl)) fun a oe cls d pn _ _ => pss_one (ps_ret pe_bl)) (pss_one (ps_ret pe_bl)), ?_⟩
  refine ⟨rfl, hc', tt _ _ (fun cls d H' h1 h2 σ' => ⟨true, h1, fun _ _ _ => h2, fun z => nomatch z⟩) fun v H' h => h⟩
theorem d_lamF {X : Cx} {W : Wd} {x a ex : Str} {c P : Addr} {k : Nat} {cx : Value} {params : Arguments} {body : Expr} {scope : Scope} {p lpos pos : Pos} {m : Nat → Option Bool} {f : EX} (G : LamF X.K X.mg x a ex cx) (hg : Gl X x)
    (TB : LamX.TabB X.base X.mg c P) (hcode : X.env.code = .ref c) (hT : W.tb = [(P, X.env.qual ++ ("<lambda>" : Str))]) (hr : Room (k + 2) X.A) (L : LamX.LamS X.env.scope scope) (hdef : defaultsOf params X.env = ([], []))
    (hbind : ∀ (q : Str) (cl : List (Str × Addr)) (pm cv ctv : Value), bindArgs (PySem.W.kla_fn "<lambda>" q params body scope cl pm cv ctv) ⟨[], []⟩ = pure []) (hmm : ∀ i b, m i = some b → PySem.W.exmOne X.K (.ref (W.cl i)) cx = some b)
    (hbody : ∀ (A : Around) (outer : List PySem.Env) (s : Shared) (H : Hp) (E : XK) (f' c' : Addr), Room k (A.deeper (LamX.lamEnv X scope s.heap.objs.size f' c')) → PD (LamX.lamCx X A outer s H E scope f' c') W body f) :
    PD X W (.Call (.Name x p) [.Lambda params body scope lpos] [] pos) (eLam m f) := by
  obtain ⟨g, pg, bg, sg, dV, kV, doc, pm, cdv, ct, oc, an, od, osl, Ng, p1, p2, p3, p4, p5, p6, p7, p8, p9, pa, k1, k2, h1, h2, h3, h4, h5, h6, h7, h8, h9, h10, h11, h12, h13, h14, h15⟩ := G.ex
  exact d_lam hg h1 h2 h3 h4 h5 h6 h7 h8 (gives_refused' h9 fun s H => ⟨h10, h12, .inl h11⟩) TB hcode hT hr L hdef hbind hmm hbody h13 h14 h15
/-- the end, where the law's own code object keeps an empty table that stands outside K -/
theorem law_walkT {l : PySem.W.OpenLaw} {q : Program} {loose : List Str} {XP : (Str → Option Value) → Heap → Prop} {YP : World → Heap → Prop} {d : DefRec} {K : Params → PySem.W.Frag} {k : Nat} {x : Str} {c P : Addr} {T : Str} (hn : l.most = some 63) (hdf : d.params.defaults = []) (hr : Room k callerA)
    (hY : ∀ (w : World) (h : Heap), YP w h → (K w.params).In h) (hP : ∀ (w : World) (h : Heap), YP w h → h.get? P = some { cls := .none, data := .fields #[] }) (hL : ∀ p : Params, (K p).lookup P = none) (hC : ∀ p : Params, PySem.W.codeHdIn (K p) c P = true)
    (F : ∀ (w : World) (mg : Str → Option Value) (fa : Addr) (h : Heap), (K w.params).In h → h.Ns mainGlobals mg → mg d.name = some (.ref fa) →
      ∃ fd : FuncData, (∀ (s : Shared) (u : Value), BindsTo s fd ⟨[u], []⟩ [(x, u)]) ∧ ∀ base : Heap, (K w.params).In base → base.Ns mainGlobals mg → LamX.TabB base mg c P → FnOk l.prog w (K w.params) mg base (L2.CX l.prog w) k fa fd [x] (spLaw (K w.params) [(P, T)])) :
    PySem.W.WalkO q loose XP YP l.row.toRowW d [] (fun f vs => PySem.call f vs) :=
  LamX.walk_ofTs (n := 63) (k := k) (x := x) (CX := fun w => L2.CX l.prog w) hn (by decide) hdf hr hY (fun w mg fa h Y KX G hm => by
    obtain ⟨fd, hb, hF⟩ := F w mg fa h KX G hm
    refine ⟨fd, [(c, P)], spLaw (K w.params) [(P, T)], fun p hp => ?_, fun p hp => ?_, fun p hp => ?_, hb, fun H a ns hl _ hT hS => ?_, fun base KX G TB => hF base KX G (TB (c, P) (List.mem_singleton.mpr rfl))⟩
    · rw [List.mem_singleton.mp hp]; exact hP w h Y
    · rw [List.mem_singleton.mp hp]; exact hL _
    · rw [List.mem_singleton.mp hp]; exact PySem.W.codeHd_of_K KX (hC _)
    · refine ⟨a, ns, rfl, hS, hl, fun p hp => ?_, fun _ => rfl⟩
      rw [List.mem_singleton.mp hp]
      exact LamX.TabS.nil (hT (c, P) (List.mem_singleton.mpr rfl)))
    fun _ _ _ _ _ ⟨_, _, _, _, _, _, _, _, _, _, _, _, z⟩ => z
end DL
end

section
set_option Elab.async false
set_option linter.all false
set_option autoImplicit false
set_option maxRecDepth 100000
set_option maxHeartbeats 400000
/-! printed by gen.py -/
namespace P_k36_whole_set_identities
open PySem PySem.Spec L2 DL
def tr1 : Nat → Option Bool := fun i => if i = 1 then some true else none
def is2 : Nat → Option Bool := fun i => if i = 2 then some true else none
def g_is_number : SX := (sRet (eAnd (e1 (dIsi "int") (eVar 0)) (eNot (e1 (dIsi "bool") (eVar 0)))))
def f_is_number : FX := runD 1 1 (g_is_number)
def g__are_numbers : SX := (sSeq (sIf (tOrD (tNotD (tTru (e1 (dIsi "tuple") (eVar 0)))) (tNotD (tTru (eB dAll (eCons (eComp [3] (gV 3) (iOf (eVar 0)) tYesD (eAnd (eCall (f_is_number) (eCons (eVar 3) eNil)) (eChain dLeA dLt (eVar 1) (eVar 3) (eVar 2)))) eNil))))) (sRet (eC (.bl false))) sNx)
  (sRet (eB dAll (eCons (eComp [3, 4] (gT (gsC (gV 3) (gsC (gV 4) gsN))) (iZipD (eCons (eVar 0) (eCons (eCut (eVar 0) (oSome (eC (.int 1))) oNone) eNil))) tYesD (e2 dLt (eVar 3) (eVar 4))) eNil))))
def f__are_numbers : FX := runD 5 3 (g__are_numbers)
def g__least_period : SX := (sSeq (sAsg (gV 1) (eB dLen (eCons (eVar 0) eNil)))
  (sSeq (sFor (gV 2) (iRng2D (eCons (eC (.int 1)) (eCons (e2 dAdd (eVar 1) (eC (.int 1))) eNil))) (sIf (tAndD (tB (e2 dEq (e2 dMod (eVar 1) (eVar 2)) (eC (.int 0)))) (tB (e2 dEq (e2 dAdd (eCut (eVar 0) (oSome (eVar 2)) oNone) (eCut (eVar 0) oNone (oSome (eVar 2)))) (eVar 0)))) (sRet (eVar 2)) sNx))
  (sRet (eVar 1))))
def f__least_period : FX := runD 3 1 (g__least_period)
def g_least_form : SX := (sSeq (sAsg (gV 4) (eComp [9] (gV 9) (iRng1D (eCons (eVar 2) eNil)) tYesD (e2 dIn (eVar 9) (eVar 3))))
  (sSeq (sAsg (gV 5) (eCall (f__least_period) (eCons (eVar 4) eNil)))
  (sSeq (sAsg (gV 4) (eCut (eVar 4) oNone (oSome (eVar 5))))
  (sSeq (sAsg (gV 6) (eDComp [10] (gV 10) (iOf (eVar 0)) tYesD (eVar 10) (eC (.bl true))))
  (sSeq (sAsg (gV 7) (eVar 1))
  (sSeq (sWhile (fun _ => 1000000) (tAndD (tB (e2 dGt (eVar 7) (eC (.int 0)))) (tB (e2 dEq (e2 dIn (e2 dSub (eVar 7) (eC (.int 1))) (eVar 6)) (e2 dIx (eVar 4) (e1 dNeg (eC (.int 1))))))) (sSeq (sAsg (gV 7) (e2 dSub (eVar 7) (eC (.int 1))))
  (sAsg (gV 4) (e2 dAdd (eCut (eVar 4) (oSome (e1 dNeg (eC (.int 1)))) oNone) (eCut (eVar 4) oNone (oSome (e1 dNeg (eC (.int 1)))))))))
  (sSeq (sAsg (gV 8) (eB dTupOf (eCons (eComp [11] (gV 11) (iOf (eVar 0)) (tB (e2 dLt (eVar 11) (eVar 7))) (eVar 11)) eNil)))
  (sRet (eTup (eCons (eVar 8) (eCons (eVar 7) (eCons (eVar 5) (eCons (eB dTupOf (eCons (eComp [9] (gV 9) (iRng1D (eCons (eVar 5) eNil)) (tTru (e2 dIxA (eVar 4) (eVar 9))) (eVar 9)) eNil)) eNil)))))))))))))
def f_least_form : FX := runD 12 4 (g_least_form)
def g_Sizes___init__ : SX := (sSeq (sIf (tOrD (tNotD (tTru (eCall (f_is_number) (eCons (eVar 2) eNil)))) (tOrD (tB (e2 dLt (eVar 2) (eC (.int 0)))) (tOrD (tNotD (tTru (eCall (f_is_number) (eCons (eVar 3) eNil)))) (tNotD (tB (eChain dLeA dLeA (eC (.int 1)) (eVar 3) (eC (.int 5040)))))))) (sRaise 1) sNx)
  (sSeq (sIf (tOrD (tNotD (tTru (eCall (f__are_numbers) (eCons (eVar 1) (eCons (eC (.int 0)) (eCons (eVar 2) eNil)))))) (tNotD (tTru (eCall (f__are_numbers) (eCons (eVar 4) (eCons (eC (.int 0)) (eCons (eVar 3) eNil))))))) (sRaise 1) sNx)
  (sSeq (sUp 0 (uFld 2 "form") (eCall (f_least_form) (eCons (eVar 1) (eCons (eVar 2) (eCons (eVar 3) (eCons (eVar 4) eNil))))))
  (sFlds 0 2 ["early", "start", "period", "later"] (eOwnFld 0 2 "form")))))
def f_Sizes___init__ : FX := runI 5 5 2 (g_Sizes___init__)
def g_Sizes___eq__ : SX := (sRet (eAnd (e1 (dIsO is2) (eVar 1)) (e2 dEq (e1 (dFld 2 "form") (eVar 0)) (e1 (dFld 2 "form") (eVar 1)))))
def f_Sizes___eq__ : FX := runD 2 2 (g_Sizes___eq__)
def g_Sizes___contains__ : SX := (sSeq (sIf (tOrD (tNotD (tTru (eCall (f_is_number) (eCons (eVar 1) eNil)))) (tB (e2 dLt (eVar 1) (eC (.int 0))))) (sRet (eC (.bl false))) sNx)
  (sRet (eIf (tB (e2 dLt (eVar 1) (e1 (dFld 2 "start") (eVar 0)))) (e2 dIn (eVar 1) (e1 (dFld 2 "early") (eVar 0))) (e2 dIn (e2 dMod (e2 dSub (eVar 1) (e1 (dFld 2 "start") (eVar 0))) (e1 (dFld 2 "period") (eVar 0))) (e1 (dFld 2 "later") (eVar 0))))))
def f_Sizes___contains__ : FX := runD 2 2 (g_Sizes___contains__)
def g_common : SX := (sSeq (sPar [2, 3] (eCons (eVar 0) (eCons (eVar 1) eNil)))
  (sSeq (sWhile (fun _ => 1000000) (tB (e2 dNe (eVar 3) (eC (.int 0)))) (sPar [2, 3] (eCons (eVar 3) (eCons (e2 dMod (eVar 2) (eVar 3)) eNil))))
  (sRet (e2 dMul (e2 dDiv (eVar 0) (eVar 2)) (eVar 1)))))
def f_common : FX := runD 4 2 (g_common)
def g_marks_of : SX := (sSeq (sAsg (gT (gsC (gV 2) (gsC (gV 3) (gsC (gV 4) (gsC (gV 5) gsN))))) (eVar 0))
  (sSeq (sAsg (gV 6) (eDComp [8] (gV 8) (iOf (eVar 2)) tYesD (eVar 8) (eC (.bl true))))
  (sSeq (sAsg (gV 7) (eDComp [9] (gV 9) (iOf (eVar 5)) tYesD (eVar 9) (eC (.bl true))))
  (sRet (eComp [8] (gV 8) (iRng1D (eCons (eVar 1) eNil)) tYesD (eIf (tB (e2 dLt (eVar 8) (eVar 3))) (e2 dIn (eVar 8) (eVar 6)) (e2 dIn (e2 dMod (e2 dSub (eVar 8) (eVar 3)) (eVar 4)) (eVar 7))))))))
def f_marks_of : FX := runD 10 2 (g_marks_of)
def g_set_form : SX := (sSeq (sAsg (gV 3) (eCall (f_common) (eCons (e2 dIx (eVar 0) (eC (.int 2))) (eCons (e2 dIx (eVar 1) (eC (.int 2))) eNil))))
  (sSeq (sIf (tB (e2 dGt (eVar 3) (eC (.int 5040)))) (sRaise 1) sNx)
  (sSeq (sAsg (gV 4) (eB dMax2 (eCons (e2 dIx (eVar 0) (eC (.int 1))) (eCons (e2 dIx (eVar 1) (eC (.int 1))) eNil))))
  (sSeq (sOwn 5 (.lst []))
  (sSeq (sFor (gT (gsC (gV 6) (gsC (gV 7) gsN))) (iZipD (eCons (eCall (f_marks_of) (eCons (eVar 0) (eCons (e2 dAdd (eVar 4) (eVar 3)) eNil))) (eCons (eCall (f_marks_of) (eCons (eVar 1) (eCons (e2 dAdd (eVar 4) (eVar 3)) eNil))) eNil))) (sIf (tB (e2 dEq (eVar 2) (eC (.str "and")))) (sApp 5 (eAnd (eVar 6) (eVar 7))) (sIf (tB (e2 dEq (eVar 2) (eC (.str "or")))) (sApp 5 (eOr (eVar 6) (eVar 7))) (sApp 5 (eAnd (eVar 6) (eNot (eVar 7)))))))
  (sSeq (sFrz 5) (sSeq (sAsg (gV 8) (eB dTupOf (eCons (eComp [9] (gV 9) (iRng1D (eCons (eVar 4) eNil)) (tTru (e2 dIxA (eVar 5) (eVar 9))) (eVar 9)) eNil)))
  (sRet (eTup (eCons (eVar 8) (eCons (eVar 4) (eCons (eVar 3) (eCons (eB dTupOf (eCons (eComp [10] (gV 10) (iRng1D (eCons (eVar 3) eNil)) (tTru (e2 dIxA (eVar 5) (e2 dAdd (eVar 4) (eVar 10)))) (eVar 10)) eNil)) eNil)))))))))))))
def f_set_form : FX := runD 11 3 (g_set_form)
def g_Sizes___and__ : SX := (sSeq (sAsg (gT (gsC (gV 2) (gsC (gV 3) (gsC (gV 4) (gsC (gV 5) gsN))))) (eCall (f_set_form) (eCons (e1 (dFld 2 "form") (eVar 0)) (eCons (e1 (dFld 2 "form") (eVar 1)) (eCons (eC (.str "and")) eNil)))))
  (sRet (eMake 2 (f_Sizes___init__) (eCons (eVar 2) (eCons (eVar 3) (eCons (eVar 4) (eCons (eVar 5) eNil)))))))
def f_Sizes___and__ : FX := runD 6 2 (g_Sizes___and__)
def g_Sizes___or__ : SX := (sSeq (sAsg (gT (gsC (gV 2) (gsC (gV 3) (gsC (gV 4) (gsC (gV 5) gsN))))) (eCall (f_set_form) (eCons (e1 (dFld 2 "form") (eVar 0)) (eCons (e1 (dFld 2 "form") (eVar 1)) (eCons (eC (.str "or")) eNil)))))
  (sRet (eMake 2 (f_Sizes___init__) (eCons (eVar 2) (eCons (eVar 3) (eCons (eVar 4) (eCons (eVar 5) eNil)))))))
def f_Sizes___or__ : FX := runD 6 2 (g_Sizes___or__)
def g_Sizes___sub__ : SX := (sSeq (sAsg (gT (gsC (gV 2) (gsC (gV 3) (gsC (gV 4) (gsC (gV 5) gsN))))) (eCall (f_set_form) (eCons (e1 (dFld 2 "form") (eVar 0)) (eCons (e1 (dFld 2 "form") (eVar 1)) (eCons (eC (.str "less")) eNil)))))
  (sRet (eMake 2 (f_Sizes___init__) (eCons (eVar 2) (eCons (eVar 3) (eCons (eVar 4) (eCons (eVar 5) eNil)))))))
def f_Sizes___sub__ : FX := runD 6 2 (g_Sizes___sub__)
def g_Sizes___invert__ : SX := (sSeq (sAsg (gT (gsC (gV 1) (gsC (gV 2) (gsC (gV 3) (gsC (gV 4) gsN))))) (eCall (f_set_form) (eCons (eTup (eCons (eTup eNil) (eCons (eC (.int 0)) (eCons (eC (.int 1)) (eCons (eTup (eCons (eC (.int 0)) eNil)) eNil))))) (eCons (e1 (dFld 2 "form") (eVar 0)) (eCons (eC (.str "less")) eNil)))))
  (sRet (eMake 2 (f_Sizes___init__) (eCons (eVar 1) (eCons (eVar 2) (eCons (eVar 3) (eCons (eVar 4) eNil)))))))
def f_Sizes___invert__ : FX := runD 5 1 (g_Sizes___invert__)
def g_Sizes___bool__ : SX := (sRet (eOr (eB dBoolT (eCons (e1 (dFld 2 "early") (eVar 0)) eNil)) (eB dBoolT (eCons (e1 (dFld 2 "later") (eVar 0)) eNil))))
def f_Sizes___bool__ : FX := runD 1 1 (g_Sizes___bool__)
def g_Sizes_many : SX := (sRet (eIf (tB (e2 dNe (e1 (dFld 2 "later") (eVar 0)) (eTup eNil))) (eC .non) (eB dLen (eCons (e1 (dFld 2 "early") (eVar 0)) eNil))))
def f_Sizes_many : FX := runD 1 1 (g_Sizes_many)
def g_Sizes_least : SX := (sSeq (sIf (tB (e2 dNe (e1 (dFld 2 "early") (eVar 0)) (eTup eNil))) (sRet (e2 dIx (e1 (dFld 2 "early") (eVar 0)) (eC (.int 0)))) sNx)
  (sRet (eIf (tB (e2 dNe (e1 (dFld 2 "later") (eVar 0)) (eTup eNil))) (e2 dAdd (e1 (dFld 2 "start") (eVar 0)) (e2 dIx (e1 (dFld 2 "later") (eVar 0)) (eC (.int 0)))) (eC .non))))
def f_Sizes_least : FX := runD 1 1 (g_Sizes_least)
def g_Sizes_first : SX := (sSeq (sOwnN 2 (nCut (eB dLstA (eCons (e1 (dFld 2 "early") (eVar 0)) eNil)) oNone (oSome (eVar 1))))
  (sSeq (sAsg (gV 3) (eC (.int 0)))
  (sSeq (sWhile (fun _ => 1000000) (tAndD (tB (e2 dLt (eOwnLen 2) (eVar 1))) (tB (e2 dNe (e1 (dFld 2 "later") (eVar 0)) (eTup eNil)))) (sSeq (sApp 2 (e2 dAdd (e2 dAdd (e1 (dFld 2 "start") (eVar 0)) (e2 dMul (e2 dDiv (eVar 3) (eB dLen (eCons (e1 (dFld 2 "later") (eVar 0)) eNil))) (e1 (dFld 2 "period") (eVar 0)))) (e2 dIxA (e1 (dFld 2 "later") (eVar 0)) (e2 dMod (eVar 3) (eB dLen (eCons (e1 (dFld 2 "later") (eVar 0)) eNil))))))
  (sAug 3 (dI (fun _ _ => true) fun a b => .int (a + b)) (eC (.int 1)))))
  (sSeq (sFrz 2) (sRet (eVar 2))))))
def f_Sizes_first : FX := runD 4 2 (g_Sizes_first)
def g_Sizes_within : SX := (sRet (eNotT (tOwn 2 (f_Sizes___bool__) (eOwn2 2 (f_Sizes___sub__) (eVar 0) (eVar 1)))))
def f_Sizes_within : FX := runD 2 2 (g_Sizes_within)
def g__law_number (W : Wd) : SX := (sSeq (sIf (tB (e2 (dScrNil W) (eVar 0) (eLst eNil))) (sRet (eB dInt (eCons (e2 dMod (e2 dAdd (e2 dMul (eVar 1) (eC (.int 48271))) (eC (.int 12345))) (eC (.int 2147483647))) eNil))) sNx)
  (sSeq (sAsg (gV 2) (e2 (dIxS W) (eVar 0) (e2 dMod (eVar 1) (eB (dLenS W) (eCons (eVar 0) eNil)))))
  (sSeq (sIf (tB (e2 dGe (eB dAbs (eCons (eVar 2) eNil)) (e2 dPow (eC (.int 10)) (eC (.int 60))))) (sAsg (gV 2) (e2 dMod (eVar 2) (e2 dPow (eC (.int 10)) (eC (.int 18))))) sNx)
  (sSeq (sAsg (gV 3) (e2 dMod (e2 dAdd (e2 dMul (e2 dAdd (eVar 2) (e2 dMul (eC (.int 977)) (eVar 1))) (eC (.int 48271))) (e2 dMul (eC (.int 31)) (eB (dLenS W) (eCons (eVar 0) eNil)))) (eC (.int 2147483647))))
  (sRet (eB dInt (eCons (e2 dMod (e2 dAdd (e2 dMul (e2 dMod (e2 dMul (eVar 3) (eC (.int 69621))) (eC (.int 2147483629))) (eC (.int 16807))) (eVar 1)) (eC (.int 2147483587))) eNil)))))))
def f__law_number (W : Wd) : FX := runD 4 2 (g__law_number W)
def g__law_take (W : Wd) : SX := (sSeq (sDrw (eVar 0))
  (sRet (e2 dMod (eB dInt (eCons (eCall (f__law_number W) (eCons (eDrw0 (eVar 0)) (eCons (eB dInt (eCons (eDrw1 (eVar 0)) eNil)) eNil))) eNil)) (eVar 1))))
def f__law_take (W : Wd) : FX := runD 2 2 (g__law_take W)
def g__law_pick (W : Wd) : SX := (sRet (e2 dIxA (eVar 1) (eCall (f__law_take W) (eCons (eVar 0) (eCons (eB dLen (eCons (eVar 1) eNil)) eNil)))))
def f__law_pick (W : Wd) : FX := runD 2 2 (g__law_pick W)
def g__law_set (W : Wd) : SX := (sSeq (sPar [1, 2] (eCons (eCall (f__law_take W) (eCons (eVar 0) (eCons (eC (.int 40)) eNil))) (eCons (eCall (f__law_pick W) (eCons (eVar 0) (eCons (eLst (eCons (eC (.int 1)) (eCons (eC (.int 2)) (eCons (eC (.int 3)) (eCons (eC (.int 4)) (eCons (eC (.int 6)) (eCons (eC (.int 12)) (eCons (eC (.int 5)) eNil)))))))) eNil))) eNil)))
  (sSeq (sAsg (gV 3) (eB dTupOf (eCons (eComp [5] (gV 5) (iRng1D (eCons (eVar 1) eNil)) (tB (e2 dEq (eCall (f__law_take W) (eCons (eVar 0) (eCons (eC (.int 3)) eNil))) (eC (.int 0)))) (eVar 5)) eNil)))
  (sSeq (sAsg (gV 4) (eB dTupOf (eCons (eComp [5] (gV 5) (iRng1D (eCons (eVar 2) eNil)) (tB (e2 dEq (eCall (f__law_take W) (eCons (eVar 0) (eCons (eC (.int 2)) eNil))) (eC (.int 0)))) (eVar 5)) eNil)))
  (sRet (eMake 2 (f_Sizes___init__) (eCons (eVar 3) (eCons (eVar 1) (eCons (eVar 2) (eCons (eVar 4) eNil)))))))))
def f__law_set (W : Wd) : FX := runD 6 1 (g__law_set W)
def g__law_form : SX := (sRet (eTup (eCons (e1 (dFld 2 "early") (eVar 0)) (eCons (e1 (dFld 2 "start") (eVar 0)) (eCons (e1 (dFld 2 "period") (eVar 0)) (eCons (e1 (dFld 2 "later") (eVar 0)) eNil))))))
def f__law_form : FX := runD 1 1 (g__law_form)
def g__law_same : SX := (sRet (eAnd (e2M (mOwn 2 (f_Sizes___eq__)) (eVar 0) (eVar 1)) (eAnd (eNot (e2M (mOwnNe 2 (f_Sizes___eq__)) (eVar 0) (eVar 1))) (e2 dEq (eCall (f__law_form) (eCons (eVar 0) eNil)) (eCall (f__law_form) (eCons (eVar 1) eNil))))))
def f__law_same : FX := runD 2 2 (g__law_same)
def g_law (W : Wd) : SX := (sSeq (sAsg (gT (gsC (gV 2) (gsC (gV 3) (gsC (gV 4) gsN)))) (eTup (eCons (eCall (f__law_set W) (eCons (eVar 1) eNil)) (eCons (eCall (f__law_set W) (eCons (eVar 1) eNil)) (eCons (eCall (f__law_set W) (eCons (eVar 1) eNil)) eNil)))))
  (sSeq (sPar [5, 6] (eCons (eOwn2 2 (f_Sizes___sub__) (eVar 2) (eVar 2)) (eCons (eOwn2 2 (f_Sizes___or__) (eVar 2) (e1M (mOwn1 2 (f_Sizes___invert__)) (eVar 2))) eNil)))
  (sSeq (sIf (tOrD (tB (e2 dNe (eCall (f__law_form) (eCons (eVar 5) eNil)) (eTup (eCons (eTup eNil) (eCons (eC (.int 0)) (eCons (eC (.int 1)) (eCons (eTup eNil) eNil))))))) (tB (e2 dNe (eCall (f__law_form) (eCons (eVar 6) eNil)) (eTup (eCons (eTup eNil) (eCons (eC (.int 0)) (eCons (eC (.int 1)) (eCons (eTup (eCons (eC (.int 0)) eNil)) eNil)))))))) (sRet (eC (.bl false))) sNx)
  (sSeq (sOwnN 7 (nLst (eCons (eTup (eCons (eOwn2 2 (f_Sizes___and__) (eVar 2) (eVar 3)) (eCons (eOwn2 2 (f_Sizes___and__) (eVar 3) (eVar 2)) eNil))) (eCons (eTup (eCons (eOwn2 2 (f_Sizes___or__) (eVar 2) (eVar 3)) (eCons (eOwn2 2 (f_Sizes___or__) (eVar 3) (eVar 2)) eNil))) (eCons (eTup (eCons (eOwn2 2 (f_Sizes___and__) (eOwn2 2 (f_Sizes___and__) (eVar 2) (eVar 3)) (eVar 4)) (eCons (eOwn2 2 (f_Sizes___and__) (eVar 2) (eOwn2 2 (f_Sizes___and__) (eVar 3) (eVar 4))) eNil))) (eCons (eTup (eCons (eOwn2 2 (f_Sizes___or__) (eOwn2 2 (f_Sizes___or__) (eVar 2) (eVar 3)) (eVar 4)) (eCons (eOwn2 2 (f_Sizes___or__) (eVar 2) (eOwn2 2 (f_Sizes___or__) (eVar 3) (eVar 4))) eNil))) (eCons (eTup (eCons (eOwn2 2 (f_Sizes___and__) (eVar 2) (eOwn2 2 (f_Sizes___or__) (eVar 3) (eVar 4))) (eCons (eOwn2 2 (f_Sizes___or__) (eOwn2 2 (f_Sizes___and__) (eVar 2) (eVar 3)) (eOwn2 2 (f_Sizes___and__) (eVar 2) (eVar 4))) eNil))) (eCons (eTup (eCons (eOwn2 2 (f_Sizes___or__) (eVar 2) (eOwn2 2 (f_Sizes___and__) (eVar 3) (eVar 4))) (eCons (eOwn2 2 (f_Sizes___and__) (eOwn2 2 (f_Sizes___or__) (eVar 2) (eVar 3)) (eOwn2 2 (f_Sizes___or__) (eVar 2) (eVar 4))) eNil))) eNil))))))))
  (sSeq (sExt 7 (eLst (eCons (eTup (eCons (e1M (mOwn1 2 (f_Sizes___invert__)) (eOwn2 2 (f_Sizes___and__) (eVar 2) (eVar 3))) (eCons (eOwn2 2 (f_Sizes___or__) (e1M (mOwn1 2 (f_Sizes___invert__)) (eVar 2)) (e1M (mOwn1 2 (f_Sizes___invert__)) (eVar 3))) eNil))) (eCons (eTup (eCons (e1M (mOwn1 2 (f_Sizes___invert__)) (eOwn2 2 (f_Sizes___or__) (eVar 2) (eVar 3))) (eCons (eOwn2 2 (f_Sizes___and__) (e1M (mOwn1 2 (f_Sizes___invert__)) (eVar 2)) (e1M (mOwn1 2 (f_Sizes___invert__)) (eVar 3))) eNil))) (eCons (eTup (eCons (e1M (mOwn1 2 (f_Sizes___invert__)) (e1M (mOwn1 2 (f_Sizes___invert__)) (eVar 2))) (eCons (eVar 2) eNil))) (eCons (eTup (eCons (eOwn2 2 (f_Sizes___sub__) (eVar 2) (eVar 3)) (eCons (eOwn2 2 (f_Sizes___and__) (eVar 2) (e1M (mOwn1 2 (f_Sizes___invert__)) (eVar 3))) eNil))) (eCons (eTup (eCons (eOwn2 2 (f_Sizes___or__) (eOwn2 2 (f_Sizes___sub__) (eVar 2) (eVar 3)) (eOwn2 2 (f_Sizes___and__) (eVar 2) (eVar 3))) (eCons (eVar 2) eNil))) (eCons (eTup (eCons (eOwn2 2 (f_Sizes___and__) (eVar 2) (eOwn2 2 (f_Sizes___or__) (eVar 2) (eVar 3))) (eCons (eVar 2) eNil))) (eCons (eTup (eCons (eOwn2 2 (f_Sizes___or__) (eVar 2) (eOwn2 2 (f_Sizes___and__) (eVar 2) (eVar 3))) (eCons (eVar 2) eNil))) (eCons (eTup (eCons (eOwn2 2 (f_Sizes___and__) (eVar 2) (eVar 5)) (eCons (eVar 5) eNil))) (eCons (eTup (eCons (eOwn2 2 (f_Sizes___or__) (eVar 2) (eVar 5)) (eCons (eVar 2) eNil))) (eCons (eTup (eCons (eOwn2 2 (f_Sizes___and__) (eVar 2) (eVar 6)) (eCons (eVar 2) eNil))) eNil))))))))))))
  (sSeq (sFrz 7) (sSeq (sIf (tNotD (tTru (eB dAll (eCons (eComp [10, 11] (gT (gsC (gV 10) (gsC (gV 11) gsN))) (iOf (eVar 7)) tYesD (eCall (f__law_same) (eCons (eVar 10) (eCons (eVar 11) eNil)))) eNil)))) (sRet (eC (.bl false))) sNx)
  (sSeq (sIf (tOrD (tNotD (tTru (eMeth 2 "within" (f_Sizes_within) (eOwn2 2 (f_Sizes___and__) (eVar 2) (eVar 3)) (eCons (eVar 2) eNil)))) (tOrD (tNotD (tTru (eMeth 2 "within" (f_Sizes_within) (eVar 2) (eCons (eOwn2 2 (f_Sizes___or__) (eVar 2) (eVar 3)) eNil)))) (tOrD (tB (e2 dNe (eMeth 2 "within" (f_Sizes_within) (eVar 2) (eCons (eVar 3) eNil)) (e2M (mOwn 2 (f_Sizes___eq__)) (eOwn2 2 (f_Sizes___sub__) (eVar 2) (eVar 3)) (eVar 5)))) (tOrD (tTru (eBoolO (tOwn 2 (f_Sizes___bool__) (eVar 5)))) (tOrD (tB (e1 (fun d => some (.bl (!isNon d))) (eMeth 2 "least" (f_Sizes_least) (eVar 5) eNil))) (tB (e2 dNe (e1M (mOwn1 2 (f_Sizes_many)) (eVar 5)) (eC (.int 0))))))))) (sRet (eC (.bl false))) sNx)
  (sSeq (sAsg (gV 8) (eComp [13] (gV 13) (iOf (eTup (eCons (eMeth 2 "least" (f_Sizes_least) (eVar 2) eNil) (eCons (eMeth 2 "least" (f_Sizes_least) (eVar 3) eNil) eNil)))) (tB (e1 (fun d => some (.bl (!isNon d))) (eVar 13))) (eVar 13)))
  (sSeq (sIf (tB (e2 dNe (eMeth 2 "least" (f_Sizes_least) (eOwn2 2 (f_Sizes___or__) (eVar 2) (eVar 3)) eNil) (eIf (tB (e2 dNe (eVar 8) (eLst eNil))) (eB dMinL (eCons (eVar 8) eNil)) (eC .non)))) (sRet (eC (.bl false))) sNx)
  (sSeq (sIf (tAndD (tB (e1 (fun d => some (.bl (!isNon d))) (e1M (mOwn1 2 (f_Sizes_many)) (eVar 2)))) (tAndD (tB (e1 (fun d => some (.bl (!isNon d))) (e1M (mOwn1 2 (f_Sizes_many)) (eVar 3)))) (tB (e2 dNe (e1M (mOwn1 2 (f_Sizes_many)) (eOwn2 2 (f_Sizes___or__) (eVar 2) (eVar 3))) (e2 dSub (e2 dAdd (e1M (mOwn1 2 (f_Sizes_many)) (eVar 2)) (e1M (mOwn1 2 (f_Sizes_many)) (eVar 3))) (e1M (mOwn1 2 (f_Sizes_many)) (eOwn2 2 (f_Sizes___and__) (eVar 2) (eVar 3)))))))) (sRet (eC (.bl false))) sNx)
  (sSeq (sIf (tB (e1 (fun d => some (.bl (isNon d))) (e1M (mOwn1 2 (f_Sizes_many)) (eVar 2)))) (sSeq (sAsg (gV 9) (eMeth 2 "first" (f_Sizes_first) (eVar 2) (eCons (eC (.int 30)) eNil)))
  (sIf (tOrD (tB (e2 dNe (eVar 9) (eB dSorted (eCons (eVar 9) eNil)))) (tOrD (tB (e2 dNe (e1 dLenSet (eVar 9)) (eC (.int 30)))) (tOrD (tNotD (tTru (eB dAll (eCons (eComp [13] (gV 13) (iOf (eVar 9)) tYesD (e2M (mOwnIn 2 (f_Sizes___contains__) (fun t => t)) (eVar 13) (eVar 2))) eNil)))) (tB (e2 dNe (eCut (eVar 9) oNone (oSome (eC (.int 7)))) (eMeth 2 "first" (f_Sizes_first) (eVar 2) (eCons (eC (.int 7)) eNil))))))) (sRet (eC (.bl false))) sNx)) sNx)
  (sSeq (sIf (tB (e2 dGt (eCall (f__law_take W) (eCons (eVar 1) (eCons (eC (.int 6)) eNil))) (eC (.int 0)))) (sRet (eC (.bl true))) sNx)
  (sSeq (sAsg (gT (gsC (gV 10) (gsC (gV 11) (gsC (gV 12) gsN)))) (eTup (eCons (eMake 2 (f_Sizes___init__) (eCons (eTup eNil) (eCons (eC (.int 0)) (eCons (eC (.int 4999)) (eCons (eTup (eCons (eC (.int 0)) eNil)) eNil))))) (eCons (eMake 2 (f_Sizes___init__) (eCons (eTup eNil) (eCons (eC (.int 0)) (eCons (eC (.int 2)) (eCons (eTup (eCons (eC (.int 0)) eNil)) eNil))))) (eCons (eMake 2 (f_Sizes___init__) (eCons (eTup eNil) (eCons (eC (.int 0)) (eCons (eC (.int 5040)) (eCons (eTup (eCons (eC (.int 0)) (eCons (eC (.int 1)) eNil))) eNil))))) eNil)))))
  (sSeq (sIf (tNotD (tTru (eLam tr1 (eOwn2 2 (f_Sizes___and__) (eVar 10) (eVar 11))))) (sRet (eC (.bl false))) sNx)
  (sSeq (sIf (tNotD (tTru (eLam tr1 (eOwn2 2 (f_Sizes___or__) (eVar 10) (eVar 11))))) (sRet (eC (.bl false))) sNx)
  (sSeq (sIf (tNotD (tTru (eLam tr1 (eOwn2 2 (f_Sizes___sub__) (eVar 10) (eVar 11))))) (sRet (eC (.bl false))) sNx)
  (sSeq (sIf (tNotD (tTru (eLam tr1 (eMeth 2 "within" (f_Sizes_within) (eVar 11) (eCons (eVar 10) eNil))))) (sRet (eC (.bl false))) sNx)
  (sSeq (sIf (tOrD (tB (e2 dNe (e1 (dFld 2 "later") (eOwn2 2 (f_Sizes___and__) (eVar 12) (eVar 11))) (eTup (eCons (eC (.int 0)) eNil)))) (tOrD (tB (e2 dNe (e1 (dFld 2 "period") (eOwn2 2 (f_Sizes___or__) (eVar 12) (eVar 11))) (eC (.int 5040)))) (tNotD (tTru (eMeth 2 "within" (f_Sizes_within) (eOwn2 2 (f_Sizes___and__) (eVar 12) (eVar 11)) (eCons (eVar 11) eNil)))))) (sRet (eC (.bl false))) sNx)
  (sRet (eAnd (e2 dEq (eCall (f__law_form) (eCons (eVar 10) eNil)) (eTup (eCons (eTup eNil) (eCons (eC (.int 0)) (eCons (eC (.int 4999)) (eCons (eTup (eCons (eC (.int 0)) eNil)) eNil)))))) (e2 dEq (eCall (f__law_form) (eCons (eVar 11) eNil)) (eTup (eCons (eTup eNil) (eCons (eC (.int 0)) (eCons (eC (.int 2)) (eCons (eTup (eCons (eC (.int 0)) eNil)) eNil)))))))))))))))))))))))))))
end P_k36_whole_set_identities
namespace P_k36_whole_set_identities
open PySem PySem.Spec L2 DL
open PyProof.Rows (envOfC)
def top (i : Nat) : Stmt := PySem.Challenge.pw_allstitches_k36_whole_set_identities.main.body.getD i (.Pass ⟨0, 0, 0, 0⟩)
abbrev s_is_number : Stmt := top 5
abbrev N_is_number : List Str := ["thing"]
theorem sc_is_number : FnScope N_is_number ["thing"] (defScope s_is_number) := ⟨rfl, rfl, rfl, by decide +kernel, rfl, by decide +kernel, by decide +kernel⟩
abbrev s__are_numbers : Stmt := top 6
abbrev N__are_numbers : List Str := ["thing", "low", "high", "one", "late"]
theorem sc__are_numbers : FnScope N__are_numbers ["thing", "low", "high"] (defScope s__are_numbers) := ⟨rfl, rfl, rfl, by decide +kernel, rfl, by decide +kernel, by decide +kernel⟩
abbrev s__least_period : Stmt := top 7
abbrev N__least_period : List Str := ["marks", "many", "period"]
theorem sc__least_period : FnScope N__least_period ["marks"] (defScope s__least_period) := ⟨rfl, rfl, rfl, by decide +kernel, rfl, by decide +kernel, by decide +kernel⟩
abbrev s_least_form : Stmt := top 8
abbrev N_least_form : List Str := ["early", "start", "period", "later", "marks", "short", "ones", "place", "head", "rest", "size", "one"]
theorem sc_least_form : FnScope N_least_form ["early", "start", "period", "later"] (defScope s_least_form) := ⟨rfl, rfl, rfl, by decide +kernel, rfl, by decide +kernel, by decide +kernel⟩
abbrev s_Sizes___init__ : Stmt := inClass (top 9) 0
abbrev N_Sizes___init__ : List Str := ["self", "early", "start", "period", "later"]
theorem sc_Sizes___init__ : FnScope N_Sizes___init__ ["self", "early", "start", "period", "later"] (defScope s_Sizes___init__) := ⟨rfl, rfl, rfl, by decide +kernel, rfl, by decide +kernel, by decide +kernel⟩
abbrev s_Sizes___eq__ : Stmt := inClass (top 9) 1
abbrev N_Sizes___eq__ : List Str := ["self", "other"]
theorem sc_Sizes___eq__ : FnScope N_Sizes___eq__ ["self", "other"] (defScope s_Sizes___eq__) := ⟨rfl, rfl, rfl, by decide +kernel, rfl, by decide +kernel, by decide +kernel⟩
abbrev s_Sizes___contains__ : Stmt := inClass (top 9) 2
abbrev N_Sizes___contains__ : List Str := ["self", "size"]
theorem sc_Sizes___contains__ : FnScope N_Sizes___contains__ ["self", "size"] (defScope s_Sizes___contains__) := ⟨rfl, rfl, rfl, by decide +kernel, rfl, by decide +kernel, by decide +kernel⟩
abbrev s_common : Stmt := top 10
abbrev N_common : List Str := ["one", "two", "rest", "last"]
theorem sc_common : FnScope N_common ["one", "two"] (defScope s_common) := ⟨rfl, rfl, rfl, by decide +kernel, rfl, by decide +kernel, by decide +kernel⟩
abbrev s_marks_of : Stmt := top 11
abbrev N_marks_of : List Str := ["form", "many", "early", "start", "period", "later", "ones", "rests", "size", "rest"]
theorem sc_marks_of : FnScope N_marks_of ["form", "many"] (defScope s_marks_of) := ⟨rfl, rfl, rfl, by decide +kernel, rfl, by decide +kernel, by decide +kernel⟩
abbrev s_set_form : Stmt := top 12
abbrev N_set_form : List Str := ["one", "two", "word", "period", "start", "marks", "mine", "theirs", "early", "size", "rest"]
theorem sc_set_form : FnScope N_set_form ["one", "two", "word"] (defScope s_set_form) := ⟨rfl, rfl, rfl, by decide +kernel, rfl, by decide +kernel, by decide +kernel⟩
abbrev s_Sizes___and__ : Stmt := inClass (top 9) 3
abbrev N_Sizes___and__ : List Str := ["self", "other", "early", "start", "period", "later"]
theorem sc_Sizes___and__ : FnScope N_Sizes___and__ ["self", "other"] (defScope s_Sizes___and__) := ⟨rfl, rfl, rfl, by decide +kernel, rfl, by decide +kernel, by decide +kernel⟩
abbrev s_Sizes___or__ : Stmt := inClass (top 9) 4
abbrev N_Sizes___or__ : List Str := ["self", "other", "early", "start", "period", "later"]
theorem sc_Sizes___or__ : FnScope N_Sizes___or__ ["self", "other"] (defScope s_Sizes___or__) := ⟨rfl, rfl, rfl, by decide +kernel, rfl, by decide +kernel, by decide +kernel⟩
abbrev s_Sizes___sub__ : Stmt := inClass (top 9) 5
abbrev N_Sizes___sub__ : List Str := ["self", "other", "early", "start", "period", "later"]
theorem sc_Sizes___sub__ : FnScope N_Sizes___sub__ ["self", "other"] (defScope s_Sizes___sub__) := ⟨rfl, rfl, rfl, by decide +kernel, rfl, by decide +kernel, by decide +kernel⟩
abbrev s_Sizes___invert__ : Stmt := inClass (top 9) 6
abbrev N_Sizes___invert__ : List Str := ["self", "early", "start", "period", "later"]
theorem sc_Sizes___invert__ : FnScope N_Sizes___invert__ ["self"] (defScope s_Sizes___invert__) := ⟨rfl, rfl, rfl, by decide +kernel, rfl, by decide +kernel, by decide +kernel⟩
abbrev s_Sizes___bool__ : Stmt := inClass (top 9) 7
abbrev N_Sizes___bool__ : List Str := ["self"]
theorem sc_Sizes___bool__ : FnScope N_Sizes___bool__ ["self"] (defScope s_Sizes___bool__) := ⟨rfl, rfl, rfl, by decide +kernel, rfl, by decide +kernel, by decide +kernel⟩
abbrev s_Sizes_many : Stmt := inClass (top 9) 8
abbrev N_Sizes_many : List Str := ["self"]
theorem sc_Sizes_many : FnScope N_Sizes_many ["self"] (defScope s_Sizes_many) := ⟨rfl, rfl, rfl, by decide +kernel, rfl, by decide +kernel, by decide +kernel⟩
abbrev s_Sizes_least : Stmt := inClass (top 9) 9
abbrev N_Sizes_least : List Str := ["self"]
theorem sc_Sizes_least : FnScope N_Sizes_least ["self"] (defScope s_Sizes_least) := ⟨rfl, rfl, rfl, by decide +kernel, rfl, by decide +kernel, by decide +kernel⟩
abbrev s_Sizes_first : Stmt := inClass (top 9) 10
abbrev N_Sizes_first : List Str := ["self", "many", "found", "turn"]
theorem sc_Sizes_first : FnScope N_Sizes_first ["self", "many"] (defScope s_Sizes_first) := ⟨rfl, rfl, rfl, by decide +kernel, rfl, by decide +kernel, by decide +kernel⟩
abbrev s_Sizes_within : Stmt := inClass (top 9) 11
abbrev N_Sizes_within : List Str := ["self", "other"]
theorem sc_Sizes_within : FnScope N_Sizes_within ["self", "other"] (defScope s_Sizes_within) := ⟨rfl, rfl, rfl, by decide +kernel, rfl, by decide +kernel, by decide +kernel⟩
abbrev s__law_number : Stmt := top 14
abbrev N__law_number : List Str := ["_law_script", "_law_index", "_law_cell", "_law_blend"]
theorem sc__law_number : FnScope N__law_number ["_law_script", "_law_index"] (defScope s__law_number) := ⟨rfl, rfl, rfl, by decide +kernel, rfl, by decide +kernel, by decide +kernel⟩
abbrev s__law_take : Stmt := top 15
abbrev N__law_take : List Str := ["_law_draw", "_law_many"]
theorem sc__law_take : FnScope N__law_take ["_law_draw", "_law_many"] (defScope s__law_take) := ⟨rfl, rfl, rfl, by decide +kernel, rfl, by decide +kernel, by decide +kernel⟩
abbrev s__law_pick : Stmt := top 16
abbrev N__law_pick : List Str := ["_law_draw", "_law_items"]
theorem sc__law_pick : FnScope N__law_pick ["_law_draw", "_law_items"] (defScope s__law_pick) := ⟨rfl, rfl, rfl, by decide +kernel, rfl, by decide +kernel, by decide +kernel⟩
abbrev s__law_set : Stmt := top 17
abbrev N__law_set : List Str := ["_law_draw", "_law_start", "_law_period", "_law_early", "_law_later", "_law_at"]
theorem sc__law_set : FnScope N__law_set ["_law_draw"] (defScope s__law_set) := ⟨rfl, rfl, rfl, by decide +kernel, rfl, by decide +kernel, by decide +kernel⟩
abbrev s__law_form : Stmt := top 18
abbrev N__law_form : List Str := ["_law_sizes"]
theorem sc__law_form : FnScope N__law_form ["_law_sizes"] (defScope s__law_form) := ⟨rfl, rfl, rfl, by decide +kernel, rfl, by decide +kernel, by decide +kernel⟩
abbrev s__law_same : Stmt := top 19
abbrev N__law_same : List Str := ["_law_one", "_law_two"]
theorem sc__law_same : FnScope N__law_same ["_law_one", "_law_two"] (defScope s__law_same) := ⟨rfl, rfl, rfl, by decide +kernel, rfl, by decide +kernel, by decide +kernel⟩
abbrev s__law_is_refused : Stmt := top 20
abbrev N__law_is_refused : List Str := ["_law_deed"]
theorem sc__law_is_refused : FnScope N__law_is_refused ["_law_deed"] (defScope s__law_is_refused) := ⟨rfl, rfl, rfl, by decide +kernel, rfl, by decide +kernel, by decide +kernel⟩
abbrev s_law : Stmt := top 21
abbrev N_law : List Str := ["_law_script", "_law_draw", "_law_a", "_law_b", "_law_c", "_law_none", "_law_whole", "_law_rows", "_law_leasts", "_law_first", "_law_one", "_law_two", "_law_three", "_law_size"]
theorem sc_law : FnScope N_law ["_law_script"] (defScope s_law) := ⟨rfl, rfl, rfl, by decide +kernel, rfl, by decide +kernel, by decide +kernel⟩
structure Txt (K : PySem.W.Frag) (w : World) (mg : Str → Option Value) (W : Wd) : Prop where
  cl2 : Cls K (W.cl 2)
  x1 : XCls K mg "BadSizes" (W.cl 1)
  sf2 : PySem.W.selfFirst K (W.cl 2) = true
  ne2 : PySem.W.findIn K (.ref (W.cl 2)) "__ne__" = some (some (.builtin "object.__ne__"))
  ob2 : PySem.W.subIn K (.ref (W.cl 2)) (.type "object") = some true
  g1 : mg "BadSizes" = some (.ref (W.cl 1))
  g2 : mg "Sizes" = some (.ref (W.cl 2))
  is2 : ∀ i t, is2 i = some t → InsC K (W.cl i) ∧ PySem.W.kitOne K (.ref (W.cl i)) (.ref (W.cl 2)) = some t
  tr1 : ∀ i b, tr1 i = some b → PySem.W.exmOne K (.ref (W.cl i)) (.ref (W.cl 1)) = some b
  n2_early : NoAttr K (W.cl 2) "early"
  n2_form : NoAttr K (W.cl 2) "form"
  n2_later : NoAttr K (W.cl 2) "later"
  n2_period : NoAttr K (W.cl 2) "period"
  n2_start : NoAttr K (W.cl 2) "start"
  b_abs : mg "abs" = none
  b_all : mg "all" = none
  b_bool : mg "bool" = none
  b_int : mg "int" = none
  b_isinstance : mg "isinstance" = none
  b_len : mg "len" = none
  b_list : mg "list" = none
  b_max : mg "max" = none
  b_min : mg "min" = none
  b_range : mg "range" = none
  b_set : mg "set" = none
  b_sorted : mg "sorted" = none
  b_tuple : mg "tuple" = none
  b_zip : mg "zip" = none
  c_MOST_PERIOD : ∃ t, mg "MOST_PERIOD" = some (.int 5040 t)
  lf__law_is_refused : LamF K mg "_law_is_refused" "_law_deed" "BadSizes" (.ref (W.cl 1))
section
variable {P : Program} {w : World} {K : PySem.W.Frag} {mg : Str → Option Value} {base : Heap} {W : Wd}
theorem ok_is_number {f : Addr} {fd : FuncData} (F : Fun K "is_number" "is_number" s_is_number f fd) (T : Txt K w mg W)  : FnOk P w K mg base (L2.CX P w) 1 f fd ["thing"] (spD K W (f_is_number) 1) :=
  okD F sc_is_number fun cdv A outer s H E hr =>
  (S_one (S_ret (d_and (d_isi rfl T.b_isinstance rfl T.b_int (by decide +kernel) (dv 0)) (d_one (d_not (d_isi rfl T.b_isinstance rfl T.b_bool (by decide +kernel) (dv 0)))))))
theorem ok__are_numbers {f : Addr} {fd : FuncData} (F : Fun K "_are_numbers" "_are_numbers" s__are_numbers f fd) (T : Txt K w mg W) (G_is_number : Cal P w K mg base "is_number" 1 (spD K W (f_is_number) 1)) : FnOk P w K mg base (L2.CX P w) 2 f fd ["thing", "low", "high"] (spD K W (f__are_numbers) 3) :=
  okD F sc__are_numbers fun cdv A outer s H E hr =>
  (S_cons (S_if (t_w (w_or (t_not (t_tru (d_isi rfl T.b_isinstance rfl T.b_tuple (by decide +kernel) (dv 0)))) (w_or1 (t_not (t_tru (d_B (cr_all rfl) q_all rfl T.b_all (by decide +kernel) (ds_cons (d_comp rfl sc__are_numbers.nd (i_of (dv 0)) (blkOk_by (own := [("one", 3)]) (N := N__are_numbers) (sc := defScope s__are_numbers) (by decide +kernel)) (fun _ _ _ _ _ => (pg_name (i := 3) sc__are_numbers.nd rfl (Or.inl rfl))) (q_gV 3) (by decide) (fun _ _ _ _ _ => ts_nil) (fun _ _ _ _ _ => (d_and (c_call G_is_number (hr.mono (by decide)) rfl (ds_cons (dv 3) ds_nil) (al_cons al_nil)) (d_one (d_chain (op_le.or op_le_str) (op_lt.or op_lt_str) (q_CA _ _) q_lt (dv 1) (dv 3) (dv 2)))))) ds_nil))))))) (S_one (S_ret d_bl)) S_nil)
  (S_one (S_ret (d_B (cr_all rfl) q_all rfl T.b_all (by decide +kernel) (ds_cons (d_comp rfl sc__are_numbers.nd (i_zip rfl T.b_zip (ds_cons (dv 0) (ds_cons (d_cut (dv 0) (o_some d_int) o_none) ds_nil))) (blkOk_by (own := [("one", 3), ("late", 4)]) (N := N__are_numbers) (sc := defScope s__are_numbers) (by decide +kernel)) (fun _ _ _ _ _ => (pg_tup rfl (pgs_cons (pg_name (i := 3) sc__are_numbers.nd rfl (Or.inl rfl)) (pgs_cons (pg_name (i := 4) sc__are_numbers.nd rfl (Or.inl rfl)) pgs_nil)))) (q_gT (q_gsC (q_gV 3) (q_gsC (q_gV 4) q_gsN)) (gl_C (gl_C gl_N))) (by decide) (fun _ _ _ _ _ => ts_nil) (fun _ _ _ _ _ => (d_lt (dv 3) (dv 4)))) ds_nil)))))
theorem ok__least_period {f : Addr} {fd : FuncData} (F : Fun K "_least_period" "_least_period" s__least_period f fd) (T : Txt K w mg W)  : FnOk P w K mg base (L2.CX P w) 1 f fd ["marks"] (spD K W (f__least_period) 1) :=
  okD F sc__least_period fun cdv A outer s H E hr =>
  (S_cons (S_asg (d_B call_len q_len rfl T.b_len (by decide +kernel) (ds_cons (dv 0) ds_nil)) (pg_name (i := 1) sc__least_period.nd rfl (Or.inl rfl)) (q_gV 1))
  (S_cons (S_for (L2.passes_of rfl) rfl (i_rng2 rfl T.b_range (ds_cons d_int (ds_cons (d_add (dv 1) d_int) ds_nil))) (pg_name (i := 2) sc__least_period.nd rfl (Or.inl rfl)) (q_gV 2) (S_one (S_if (t_w (w_and (t_eq hr.units (d_mod (dv 1) (dv 2)) d_int) (w_and1 (t_eq hr.units (d_add (d_cut (dv 0) (o_some (dv 2)) o_none) (d_cut (dv 0) o_none (o_some (dv 2)))) (dv 0))))) (S_one (S_ret (dv 2))) S_nil)))
  (S_one (S_ret (dv 1)))))
theorem ok_least_form {f : Addr} {fd : FuncData} (F : Fun K "least_form" "least_form" s_least_form f fd) (T : Txt K w mg W) (G__least_period : Cal P w K mg base "_least_period" 1 (spD K W (f__least_period) 1)) : FnOk P w K mg base (L2.CX P w) 2 f fd ["early", "start", "period", "later"] (spD K W (f_least_form) 4) :=
  okD F sc_least_form fun cdv A outer s H E hr =>
  (S_cons (S_asg (d_comp rfl sc_least_form.nd (i_rng1 rfl T.b_range (ds_cons (dv 2) ds_nil)) (blkOk_by (own := [("rest", 9)]) (N := N_least_form) (sc := defScope s_least_form) (by decide +kernel)) (fun _ _ _ _ _ => (pg_name (i := 9) sc_least_form.nd rfl (Or.inl rfl))) (q_gV 9) (by decide) (fun _ _ _ _ _ => ts_nil) (fun _ _ _ _ _ => (d_in (u1 hr.units) (dv 9) (dv 3)))) (pg_name (i := 4) sc_least_form.nd rfl (Or.inr rfl)) (q_gV 4))
  (S_cons (S_asg (c_call G__least_period (hr.mono (by decide)) rfl (ds_cons (dv 4) ds_nil) (al_cons al_nil)) (pg_name (i := 5) sc_least_form.nd rfl (Or.inl rfl)) (q_gV 5))
  (S_cons (S_asg (d_cut (dv 4) o_none (o_some (dv 5))) (pg_name (i := 4) sc_least_form.nd rfl (Or.inr rfl)) (q_gV 4))
  (S_cons (S_setDComp (i := 6) rfl sc_least_form.nd rfl rfl (sw_trueD rfl rfl rfl (by decide +kernel)) (i_of (dv 0)) (blkOk_by (own := [("size", 10)]) (N := N_least_form) (sc := defScope s_least_form) (by decide +kernel)) (fun _ _ _ _ _ => (pg_name (i := 10) sc_least_form.nd rfl (Or.inl rfl))) (q_gV 10) (by decide) (fun _ _ _ _ _ => ts_nil) (fun _ _ _ _ _ => (dv 10)) (fun _ _ _ _ _ => d_bl))
  (S_cons (S_asg (dv 1) (pg_name (i := 7) sc_least_form.nd rfl (Or.inr rfl)) (q_gV 7))
  (S_cons (S_while (fun _ => 1000000) (L2.passes_of rfl) (t_w (w_and (t_gt (dv 7) d_int) (w_and1 (t_eq hr.units (d_in (u1 hr.units) (d_sub (dv 7) d_int) (dv 6)) (d_ix (dv 4) (d_neg d_int)))))) (S_cons (S_asg (d_sub (dv 7) d_int) (pg_name (i := 7) sc_least_form.nd rfl (Or.inr rfl)) (q_gV 7))
  (S_one (S_asg (d_add (d_cut (dv 4) (o_some (d_neg d_int)) o_none) (d_cut (dv 4) o_none (o_some (d_neg d_int)))) (pg_name (i := 4) sc_least_form.nd rfl (Or.inr rfl)) (q_gV 4)))))
  (S_cons (S_asg (d_Ty call_tuple_of q_tupOf rfl T.b_tuple (by decide +kernel) (ds_cons (d_comp rfl sc_least_form.nd (i_of (dv 0)) (blkOk_by (own := [("one", 11)]) (N := N_least_form) (sc := defScope s_least_form) (by decide +kernel)) (fun _ _ _ _ _ => (pg_name (i := 11) sc_least_form.nd rfl (Or.inl rfl))) (q_gV 11) (by decide) (fun _ _ _ _ _ => (ts_one (t_lt (dv 11) (dv 7)))) (fun _ _ _ _ _ => (dv 11))) ds_nil)) (pg_name (i := 8) sc_least_form.nd rfl (Or.inl rfl)) (q_gV 8))
  (S_one (S_ret (d_tup (ds_cons (dv 8) (ds_cons (dv 7) (ds_cons (dv 5) (ds_cons (d_Ty call_tuple_of q_tupOf rfl T.b_tuple (by decide +kernel) (ds_cons (d_comp rfl sc_least_form.nd (i_rng1 rfl T.b_range (ds_cons (dv 5) ds_nil)) (blkOk_by (own := [("rest", 9)]) (N := N_least_form) (sc := defScope s_least_form) (by decide +kernel)) (fun _ _ _ _ _ => (pg_name (i := 9) sc_least_form.nd rfl (Or.inl rfl))) (q_gV 9) (by decide) (fun _ _ _ _ _ => (ts_one (t_tru (d_ixA hr.units (dv 4) (dv 9))))) (fun _ _ _ _ _ => (dv 9))) ds_nil)) ds_nil))))))))))))))
theorem ok_Sizes___init__ {f : Addr} {fd : FuncData} (F : Fun K "__init__" "Sizes.__init__" s_Sizes___init__ f fd) (T : Txt K w mg W) (G__are_numbers : Cal P w K mg base "_are_numbers" 2 (spD K W (f__are_numbers) 3)) (G_is_number : Cal P w K mg base "is_number" 1 (spD K W (f_is_number) 1)) (G_least_form : Cal P w K mg base "least_form" 2 (spD K W (f_least_form) 4)) : FnOk P w K mg base (L2.CX P w) 3 f fd ["self", "early", "start", "period", "later"] (spI K W (f_Sizes___init__) 2 4) :=
  okI F sc_Sizes___init__ rfl fun cdv A outer s H E hr =>
  (S_cons (S_if (t_w (w_or (t_not (t_tru (c_call G_is_number (hr.mono (by decide)) rfl (ds_cons (dv 2) ds_nil) (al_cons al_nil)))) (w_or (t_lt (dv 2) d_int) (w_or (t_not (t_tru (c_call G_is_number (hr.mono (by decide)) rfl (ds_cons (dv 3) ds_nil) (al_cons al_nil)))) (w_or1 (t_not (t_chain (op_le.or op_le_str) (op_le.or op_le_str) (q_CA _ _) (q_CA _ _) d_int (dv 3) (d_cint rfl T.c_MOST_PERIOD)))))))) (S_one (S_raise rfl T.x1 rfl)) S_nil)
  (S_cons (S_if (t_w (w_or (t_not (t_tru (c_call G__are_numbers (hr.mono (by decide)) rfl (ds_cons (dv 1) (ds_cons d_int (ds_cons (dv 2) ds_nil))) (al_cons (al_cons (al_cons al_nil)))))) (w_or1 (t_not (t_tru (c_call G__are_numbers (hr.mono (by decide)) rfl (ds_cons (dv 4) (ds_cons d_int (ds_cons (dv 3) ds_nil))) (al_cons (al_cons (al_cons al_nil))))))))) (S_one (S_raise rfl T.x1 rfl)) S_nil)
  (S_cons (S_fld (c := 2) T.cl2 T.n2_form (pv 0) (c_call G_least_form (hr.mono (by decide)) rfl (ds_cons (dv 1) (ds_cons (dv 2) (ds_cons (dv 3) (ds_cons (dv 4) ds_nil)))) (al_cons (al_cons (al_cons (al_cons al_nil))))))
  (S_one (S_flds (c := 2) (m := 4) (fs := ["early", "start", "period", "later"]) (d_ownFld T.cl2 T.n2_form (pv 0)) (pg_tup rfl (pgs_cons (pg_attr T.cl2 T.n2_early (pv 0)) (pgs_cons (pg_attr T.cl2 T.n2_start (pv 0)) (pgs_cons (pg_attr T.cl2 T.n2_period (pv 0)) (pgs_cons (pg_attr T.cl2 T.n2_later (pv 0)) pgs_nil))))) rfl)))))
theorem ok_Sizes___eq__ {f : Addr} {fd : FuncData} (F : Fun K "__eq__" "Sizes.__eq__" s_Sizes___eq__ f fd) (T : Txt K w mg W)  : FnOk P w K mg base (L2.CX P w) 1 f fd ["self", "other"] (spD K W (f_Sizes___eq__) 2) :=
  okD F sc_Sizes___eq__ fun cdv A outer s H E hr =>
  (S_one (S_ret (d_and (d_isO rfl T.b_isinstance rfl T.g2 T.is2 (dv 1)) (d_one (d_eq hr.units (d_fld T.cl2 T.n2_form (dv 0)) (d_fld T.cl2 T.n2_form (dv 1)))))))
theorem ok_Sizes___contains__ {f : Addr} {fd : FuncData} (F : Fun K "__contains__" "Sizes.__contains__" s_Sizes___contains__ f fd) (T : Txt K w mg W) (G_is_number : Cal P w K mg base "is_number" 1 (spD K W (f_is_number) 1)) : FnOk P w K mg base (L2.CX P w) 2 f fd ["self", "size"] (spD K W (f_Sizes___contains__) 2) :=
  okD F sc_Sizes___contains__ fun cdv A outer s H E hr =>
  (S_cons (S_if (t_w (w_or (t_not (t_tru (c_call G_is_number (hr.mono (by decide)) rfl (ds_cons (dv 1) ds_nil) (al_cons al_nil)))) (w_or1 (t_lt (dv 1) d_int)))) (S_one (S_ret d_bl)) S_nil)
  (S_one (S_ret (d_if (t_lt (dv 1) (d_fld T.cl2 T.n2_start (dv 0))) (d_in (u1 hr.units) (dv 1) (d_fld T.cl2 T.n2_early (dv 0))) (d_in (u1 hr.units) (d_mod (d_sub (dv 1) (d_fld T.cl2 T.n2_start (dv 0))) (d_fld T.cl2 T.n2_period (dv 0))) (d_fld T.cl2 T.n2_later (dv 0)))))))
theorem ok_common {f : Addr} {fd : FuncData} (F : Fun K "common" "common" s_common f fd) (T : Txt K w mg W)  : FnOk P w K mg base (L2.CX P w) 1 f fd ["one", "two"] (spD K W (f_common) 2) :=
  okD F sc_common fun cdv A outer s H E hr =>
  (S_cons (S_par2 (ps_par (i := 2) (j := 3) rfl sc_common.nd rfl rfl (by decide) rfl rfl (ds_cons (dv 0) (ds_cons (dv 1) ds_nil)) (by rfl)))
  (S_cons (S_while (fun _ => 1000000) (L2.passes_of rfl) (t_ne hr.units (dv 3) d_int) (S_one (S_par2 (ps_par (i := 2) (j := 3) rfl sc_common.nd rfl rfl (by decide) rfl rfl (ds_cons (dv 3) (ds_cons (d_mod (dv 2) (dv 3)) ds_nil)) (by rfl)))))
  (S_one (S_ret (d_mul (d_div (dv 0) (dv 2)) (dv 1))))))
theorem ok_marks_of {f : Addr} {fd : FuncData} (F : Fun K "marks_of" "marks_of" s_marks_of f fd) (T : Txt K w mg W)  : FnOk P w K mg base (L2.CX P w) 1 f fd ["form", "many"] (spD K W (f_marks_of) 2) :=
  okD F sc_marks_of fun cdv A outer s H E hr =>
  (S_cons (S_asg (dv 0) (pg_tup rfl (pgs_cons (pg_name (i := 2) sc_marks_of.nd rfl (Or.inl rfl)) (pgs_cons (pg_name (i := 3) sc_marks_of.nd rfl (Or.inr rfl)) (pgs_cons (pg_name (i := 4) sc_marks_of.nd rfl (Or.inr rfl)) (pgs_cons (pg_name (i := 5) sc_marks_of.nd rfl (Or.inl rfl)) pgs_nil))))) (q_gT (q_gsC (q_gV 2) (q_gsC (q_gV 3) (q_gsC (q_gV 4) (q_gsC (q_gV 5) q_gsN)))) (gl_C (gl_C (gl_C (gl_C gl_N))))))
  (S_cons (S_asg (d_dcomp rfl sc_marks_of.nd (i_of (dv 2)) (blkOk_by (own := [("size", 8)]) (N := N_marks_of) (sc := defScope s_marks_of) (by decide +kernel)) (fun _ _ _ _ _ => (pg_name (i := 8) sc_marks_of.nd rfl (Or.inl rfl))) (q_gV 8) (by decide) (fun _ _ _ _ _ => ts_nil) (fun _ _ _ _ _ => (dv 8)) (fun _ _ _ _ _ => d_bl)) (pg_name (i := 6) sc_marks_of.nd rfl (Or.inr rfl)) (q_gV 6))
  (S_cons (S_asg (d_dcomp rfl sc_marks_of.nd (i_of (dv 5)) (blkOk_by (own := [("rest", 9)]) (N := N_marks_of) (sc := defScope s_marks_of) (by decide +kernel)) (fun _ _ _ _ _ => (pg_name (i := 9) sc_marks_of.nd rfl (Or.inl rfl))) (q_gV 9) (by decide) (fun _ _ _ _ _ => ts_nil) (fun _ _ _ _ _ => (dv 9)) (fun _ _ _ _ _ => d_bl)) (pg_name (i := 7) sc_marks_of.nd rfl (Or.inr rfl)) (q_gV 7))
  (S_one (S_ret (d_comp rfl sc_marks_of.nd (i_rng1 rfl T.b_range (ds_cons (dv 1) ds_nil)) (blkOk_by (own := [("size", 8)]) (N := N_marks_of) (sc := defScope s_marks_of) (by decide +kernel)) (fun _ _ _ _ _ => (pg_name (i := 8) sc_marks_of.nd rfl (Or.inl rfl))) (q_gV 8) (by decide) (fun _ _ _ _ _ => ts_nil) (fun _ _ _ _ _ => (d_if (t_lt (dv 8) (dv 3)) (d_in (u1 hr.units) (dv 8) (dv 6)) (d_in (u1 hr.units) (d_mod (d_sub (dv 8) (dv 3)) (dv 4)) (dv 7))))))))))
theorem ok_set_form {f : Addr} {fd : FuncData} (F : Fun K "set_form" "set_form" s_set_form f fd) (T : Txt K w mg W) (G_common : Cal P w K mg base "common" 1 (spD K W (f_common) 2)) (G_marks_of : Cal P w K mg base "marks_of" 1 (spD K W (f_marks_of) 2)) : FnOk P w K mg base (L2.CX P w) 2 f fd ["one", "two", "word"] (spD K W (f_set_form) 3) :=
  okD F sc_set_form fun cdv A outer s H E hr =>
  (S_cons (S_asg (c_call G_common (hr.mono (by decide)) rfl (ds_cons (d_ix (dv 0) d_int) (ds_cons (d_ix (dv 1) d_int) ds_nil)) (al_cons (al_cons al_nil))) (pg_name (i := 3) sc_set_form.nd rfl (Or.inl rfl)) (q_gV 3))
  (S_cons (S_if (t_gt (dv 3) (d_cint rfl T.c_MOST_PERIOD)) (S_one (S_raise rfl T.x1 rfl)) S_nil)
  (S_cons (S_asg (d_B (call_max2 rfl) q_max2 rfl T.b_max (by decide +kernel) (ds_cons (d_ix (dv 0) d_int) (ds_cons (d_ix (dv 1) d_int) ds_nil))) (pg_name (i := 4) sc_set_form.nd rfl (Or.inr rfl)) (q_gV 4))
  (S_cons (S_nil_ (i := 5) sc_set_form.nd rfl (Or.inr rfl))
  (S_cons (S_for (L2.passes_of rfl) rfl (i_zip rfl T.b_zip (ds_cons (c_call G_marks_of (hr.mono (by decide)) rfl (ds_cons (dv 0) (ds_cons (d_add (dv 4) (dv 3)) ds_nil)) (al_cons (al_cons al_nil))) (ds_cons (c_call G_marks_of (hr.mono (by decide)) rfl (ds_cons (dv 1) (ds_cons (d_add (dv 4) (dv 3)) ds_nil)) (al_cons (al_cons al_nil))) ds_nil))) (pg_tup rfl (pgs_cons (pg_name (i := 6) sc_set_form.nd rfl (Or.inl rfl)) (pgs_cons (pg_name (i := 7) sc_set_form.nd rfl (Or.inl rfl)) pgs_nil))) (q_gT (q_gsC (q_gV 6) (q_gsC (q_gV 7) q_gsN)) (gl_C (gl_C gl_N))) (S_one (S_if (t_eq hr.units (dv 2) d_str) (S_one (S_app (d_and (dv 6) (d_one (dv 7))) (pe_bm PySem.F.plainAttrs_list PySem.F.slot_list_append PySem.F.type_list_append mt_append (pv 5) (pa_cons (d_and (dv 6) (d_one (dv 7))) pa_nil)))) (S_one (S_if (t_eq hr.units (dv 2) d_str) (S_one (S_app (d_or (dv 6) (d_one (dv 7))) (pe_bm PySem.F.plainAttrs_list PySem.F.slot_list_append PySem.F.type_list_append mt_append (pv 5) (pa_cons (d_or (dv 6) (d_one (dv 7))) pa_nil)))) (S_one (S_app (d_and (dv 6) (d_one (d_not (dv 7)))) (pe_bm PySem.F.plainAttrs_list PySem.F.slot_list_append PySem.F.type_list_append mt_append (pv 5) (pa_cons (d_and (dv 6) (d_one (d_not (dv 7)))) pa_nil)))))))))
  (S_frz (i := 5) (S_cons (S_asg (d_Ty call_tuple_of q_tupOf rfl T.b_tuple (by decide +kernel) (ds_cons (d_comp rfl sc_set_form.nd (i_rng1 rfl T.b_range (ds_cons (dv 4) ds_nil)) (blkOk_by (own := [("size", 9)]) (N := N_set_form) (sc := defScope s_set_form) (by decide +kernel)) (fun _ _ _ _ _ => (pg_name (i := 9) sc_set_form.nd rfl (Or.inl rfl))) (q_gV 9) (by decide) (fun _ _ _ _ _ => (ts_one (t_tru (d_ixA hr.units (dv 5) (dv 9))))) (fun _ _ _ _ _ => (dv 9))) ds_nil)) (pg_name (i := 8) sc_set_form.nd rfl (Or.inl rfl)) (q_gV 8))
  (S_one (S_ret (d_tup (ds_cons (dv 8) (ds_cons (dv 4) (ds_cons (dv 3) (ds_cons (d_Ty call_tuple_of q_tupOf rfl T.b_tuple (by decide +kernel) (ds_cons (d_comp rfl sc_set_form.nd (i_rng1 rfl T.b_range (ds_cons (dv 3) ds_nil)) (blkOk_by (own := [("rest", 10)]) (N := N_set_form) (sc := defScope s_set_form) (by decide +kernel)) (fun _ _ _ _ _ => (pg_name (i := 10) sc_set_form.nd rfl (Or.inl rfl))) (q_gV 10) (by decide) (fun _ _ _ _ _ => (ts_one (t_tru (d_ixA hr.units (dv 5) (d_add (dv 4) (dv 10)))))) (fun _ _ _ _ _ => (dv 10))) ds_nil)) ds_nil))))))))))))))
theorem ok_Sizes___and__ {f : Addr} {fd : FuncData} (F : Fun K "__and__" "Sizes.__and__" s_Sizes___and__ f fd) (T : Txt K w mg W) (G_set_form : Cal P w K mg base "set_form" 2 (spD K W (f_set_form) 3)) (G_Sizes___init__ : CalI P w K mg base (W.cl 2) "Sizes" 3 (spI K W (f_Sizes___init__) 2 4)) : FnOk P w K mg base (L2.CX P w) 5 f fd ["self", "other"] (spD K W (f_Sizes___and__) 2) :=
  okD F sc_Sizes___and__ fun cdv A outer s H E hr =>
  (S_cons (S_asg (c_call G_set_form (hr.mono (by decide)) rfl (ds_cons (d_fld T.cl2 T.n2_form (dv 0)) (ds_cons (d_fld T.cl2 T.n2_form (dv 1)) (ds_cons d_str ds_nil))) (al_cons (al_cons (al_cons al_nil)))) (pg_tup rfl (pgs_cons (pg_name (i := 2) sc_Sizes___and__.nd rfl (Or.inl rfl)) (pgs_cons (pg_name (i := 3) sc_Sizes___and__.nd rfl (Or.inl rfl)) (pgs_cons (pg_name (i := 4) sc_Sizes___and__.nd rfl (Or.inl rfl)) (pgs_cons (pg_name (i := 5) sc_Sizes___and__.nd rfl (Or.inl rfl)) pgs_nil))))) (q_gT (q_gsC (q_gV 2) (q_gsC (q_gV 3) (q_gsC (q_gV 4) (q_gsC (q_gV 5) q_gsN)))) (gl_C (gl_C (gl_C (gl_C gl_N))))))
  (S_one (S_ret (c_make G_Sizes___init__ (hr.mono (by decide)) rfl (ds_cons (dv 2) (ds_cons (dv 3) (ds_cons (dv 4) (ds_cons (dv 5) ds_nil)))) (al_cons (al_cons (al_cons (al_cons al_nil))))))))
theorem ok_Sizes___or__ {f : Addr} {fd : FuncData} (F : Fun K "__or__" "Sizes.__or__" s_Sizes___or__ f fd) (T : Txt K w mg W) (G_set_form : Cal P w K mg base "set_form" 2 (spD K W (f_set_form) 3)) (G_Sizes___init__ : CalI P w K mg base (W.cl 2) "Sizes" 3 (spI K W (f_Sizes___init__) 2 4)) : FnOk P w K mg base (L2.CX P w) 5 f fd ["self", "other"] (spD K W (f_Sizes___or__) 2) :=
  okD F sc_Sizes___or__ fun cdv A outer s H E hr =>
  (S_cons (S_asg (c_call G_set_form (hr.mono (by decide)) rfl (ds_cons (d_fld T.cl2 T.n2_form (dv 0)) (ds_cons (d_fld T.cl2 T.n2_form (dv 1)) (ds_cons d_str ds_nil))) (al_cons (al_cons (al_cons al_nil)))) (pg_tup rfl (pgs_cons (pg_name (i := 2) sc_Sizes___or__.nd rfl (Or.inl rfl)) (pgs_cons (pg_name (i := 3) sc_Sizes___or__.nd rfl (Or.inl rfl)) (pgs_cons (pg_name (i := 4) sc_Sizes___or__.nd rfl (Or.inl rfl)) (pgs_cons (pg_name (i := 5) sc_Sizes___or__.nd rfl (Or.inl rfl)) pgs_nil))))) (q_gT (q_gsC (q_gV 2) (q_gsC (q_gV 3) (q_gsC (q_gV 4) (q_gsC (q_gV 5) q_gsN)))) (gl_C (gl_C (gl_C (gl_C gl_N))))))
  (S_one (S_ret (c_make G_Sizes___init__ (hr.mono (by decide)) rfl (ds_cons (dv 2) (ds_cons (dv 3) (ds_cons (dv 4) (ds_cons (dv 5) ds_nil)))) (al_cons (al_cons (al_cons (al_cons al_nil))))))))
theorem ok_Sizes___sub__ {f : Addr} {fd : FuncData} (F : Fun K "__sub__" "Sizes.__sub__" s_Sizes___sub__ f fd) (T : Txt K w mg W) (G_set_form : Cal P w K mg base "set_form" 2 (spD K W (f_set_form) 3)) (G_Sizes___init__ : CalI P w K mg base (W.cl 2) "Sizes" 3 (spI K W (f_Sizes___init__) 2 4)) : FnOk P w K mg base (L2.CX P w) 5 f fd ["self", "other"] (spD K W (f_Sizes___sub__) 2) :=
  okD F sc_Sizes___sub__ fun cdv A outer s H E hr =>
  (S_cons (S_asg (c_call G_set_form (hr.mono (by decide)) rfl (ds_cons (d_fld T.cl2 T.n2_form (dv 0)) (ds_cons (d_fld T.cl2 T.n2_form (dv 1)) (ds_cons d_str ds_nil))) (al_cons (al_cons (al_cons al_nil)))) (pg_tup rfl (pgs_cons (pg_name (i := 2) sc_Sizes___sub__.nd rfl (Or.inl rfl)) (pgs_cons (pg_name (i := 3) sc_Sizes___sub__.nd rfl (Or.inl rfl)) (pgs_cons (pg_name (i := 4) sc_Sizes___sub__.nd rfl (Or.inl rfl)) (pgs_cons (pg_name (i := 5) sc_Sizes___sub__.nd rfl (Or.inl rfl)) pgs_nil))))) (q_gT (q_gsC (q_gV 2) (q_gsC (q_gV 3) (q_gsC (q_gV 4) (q_gsC (q_gV 5) q_gsN)))) (gl_C (gl_C (gl_C (gl_C gl_N))))))
  (S_one (S_ret (c_make G_Sizes___init__ (hr.mono (by decide)) rfl (ds_cons (dv 2) (ds_cons (dv 3) (ds_cons (dv 4) (ds_cons (dv 5) ds_nil)))) (al_cons (al_cons (al_cons (al_cons al_nil))))))))
theorem ok_Sizes___invert__ {f : Addr} {fd : FuncData} (F : Fun K "__invert__" "Sizes.__invert__" s_Sizes___invert__ f fd) (T : Txt K w mg W) (G_set_form : Cal P w K mg base "set_form" 2 (spD K W (f_set_form) 3)) (G_Sizes___init__ : CalI P w K mg base (W.cl 2) "Sizes" 3 (spI K W (f_Sizes___init__) 2 4)) : FnOk P w K mg base (L2.CX P w) 5 f fd ["self"] (spD K W (f_Sizes___invert__) 1) :=
  okD F sc_Sizes___invert__ fun cdv A outer s H E hr =>
  (S_cons (S_asg (c_call G_set_form (hr.mono (by decide)) rfl (ds_cons (d_tup (ds_cons (d_tup ds_nil) (ds_cons d_int (ds_cons d_int (ds_cons (d_tup (ds_cons d_int ds_nil)) ds_nil))))) (ds_cons (d_fld T.cl2 T.n2_form (dv 0)) (ds_cons d_str ds_nil))) (al_cons (al_cons (al_cons al_nil)))) (pg_tup rfl (pgs_cons (pg_name (i := 1) sc_Sizes___invert__.nd rfl (Or.inl rfl)) (pgs_cons (pg_name (i := 2) sc_Sizes___invert__.nd rfl (Or.inl rfl)) (pgs_cons (pg_name (i := 3) sc_Sizes___invert__.nd rfl (Or.inl rfl)) (pgs_cons (pg_name (i := 4) sc_Sizes___invert__.nd rfl (Or.inl rfl)) pgs_nil))))) (q_gT (q_gsC (q_gV 1) (q_gsC (q_gV 2) (q_gsC (q_gV 3) (q_gsC (q_gV 4) q_gsN)))) (gl_C (gl_C (gl_C (gl_C gl_N))))))
  (S_one (S_ret (c_make G_Sizes___init__ (hr.mono (by decide)) rfl (ds_cons (dv 1) (ds_cons (dv 2) (ds_cons (dv 3) (ds_cons (dv 4) ds_nil)))) (al_cons (al_cons (al_cons (al_cons al_nil))))))))
theorem ok_Sizes___bool__ {f : Addr} {fd : FuncData} (F : Fun K "__bool__" "Sizes.__bool__" s_Sizes___bool__ f fd) (T : Txt K w mg W)  : FnOk P w K mg base (L2.CX P w) 1 f fd ["self"] (spD K W (f_Sizes___bool__) 1) :=
  okD F sc_Sizes___bool__ fun cdv A outer s H E hr =>
  (S_one (S_ret (d_or (d_Ty call_boolT q_boolT rfl T.b_bool (by decide +kernel) (ds_cons (d_fld T.cl2 T.n2_early (dv 0)) ds_nil)) (d_one (d_Ty call_boolT q_boolT rfl T.b_bool (by decide +kernel) (ds_cons (d_fld T.cl2 T.n2_later (dv 0)) ds_nil))))))
theorem ok_Sizes_many {f : Addr} {fd : FuncData} (F : Fun K "many" "Sizes.many" s_Sizes_many f fd) (T : Txt K w mg W)  : FnOk P w K mg base (L2.CX P w) 1 f fd ["self"] (spD K W (f_Sizes_many) 1) :=
  okD F sc_Sizes_many fun cdv A outer s H E hr =>
  (S_one (S_ret (d_if (t_ne hr.units (d_fld T.cl2 T.n2_later (dv 0)) (d_tup ds_nil)) d_non (d_B call_len q_len rfl T.b_len (by decide +kernel) (ds_cons (d_fld T.cl2 T.n2_early (dv 0)) ds_nil)))))
theorem ok_Sizes_least {f : Addr} {fd : FuncData} (F : Fun K "least" "Sizes.least" s_Sizes_least f fd) (T : Txt K w mg W)  : FnOk P w K mg base (L2.CX P w) 1 f fd ["self"] (spD K W (f_Sizes_least) 1) :=
  okD F sc_Sizes_least fun cdv A outer s H E hr =>
  (S_cons (S_if (t_ne hr.units (d_fld T.cl2 T.n2_early (dv 0)) (d_tup ds_nil)) (S_one (S_ret (d_ix (d_fld T.cl2 T.n2_early (dv 0)) d_int))) S_nil)
  (S_one (S_ret (d_if (t_ne hr.units (d_fld T.cl2 T.n2_later (dv 0)) (d_tup ds_nil)) (d_add (d_fld T.cl2 T.n2_start (dv 0)) (d_ix (d_fld T.cl2 T.n2_later (dv 0)) d_int)) d_non))))
theorem ok_Sizes_first {f : Addr} {fd : FuncData} (F : Fun K "first" "Sizes.first" s_Sizes_first f fd) (T : Txt K w mg W)  : FnOk P w K mg base (L2.CX P w) 1 f fd ["self", "many"] (spD K W (f_Sizes_first) 2) :=
  okD F sc_Sizes_first fun cdv A outer s H E hr =>
  (S_cons (S_ownN (i := 2) sc_Sizes_first.nd rfl (Or.inl rfl) (n_cut (d_Ty (call_listA rfl) q_lstA rfl T.b_list (by decide +kernel) (ds_cons (d_fld T.cl2 T.n2_early (dv 0)) ds_nil)) o_none (o_some (dv 1))))
  (S_cons (S_asg d_int (pg_name (i := 3) sc_Sizes_first.nd rfl (Or.inl rfl)) (q_gV 3))
  (S_cons (S_while (fun _ => 1000000) (L2.passes_of rfl) (t_w (w_and (t_lt (d_ownLen rfl T.b_len (pv 2)) (dv 1)) (w_and1 (t_ne hr.units (d_fld T.cl2 T.n2_later (dv 0)) (d_tup ds_nil))))) (S_cons (S_app (d_add (d_add (d_fld T.cl2 T.n2_start (dv 0)) (d_mul (d_div (dv 3) (d_B call_len q_len rfl T.b_len (by decide +kernel) (ds_cons (d_fld T.cl2 T.n2_later (dv 0)) ds_nil))) (d_fld T.cl2 T.n2_period (dv 0)))) (d_ixA hr.units (d_fld T.cl2 T.n2_later (dv 0)) (d_mod (dv 3) (d_B call_len q_len rfl T.b_len (by decide +kernel) (ds_cons (d_fld T.cl2 T.n2_later (dv 0)) ds_nil))))) (pe_bm PySem.F.plainAttrs_list PySem.F.slot_list_append PySem.F.type_list_append mt_append (pv 2) (pa_cons (d_add (d_add (d_fld T.cl2 T.n2_start (dv 0)) (d_mul (d_div (dv 3) (d_B call_len q_len rfl T.b_len (by decide +kernel) (ds_cons (d_fld T.cl2 T.n2_later (dv 0)) ds_nil))) (d_fld T.cl2 T.n2_period (dv 0)))) (d_ixA hr.units (d_fld T.cl2 T.n2_later (dv 0)) (d_mod (dv 3) (d_B call_len q_len rfl T.b_len (by decide +kernel) (ds_cons (d_fld T.cl2 T.n2_later (dv 0)) ds_nil))))) pa_nil)))
  (S_one (S_aug (i := 3) sc_Sizes_first.nd rfl (Or.inl rfl) d_int ip_add))))
  (S_frz (i := 2) (S_one (S_ret (dv 2)))))))
theorem ok_Sizes_within {f : Addr} {fd : FuncData} (F : Fun K "within" "Sizes.within" s_Sizes_within f fd) (T : Txt K w mg W) (G_Sizes___bool__ : CalM P w K mg base (W.cl 2) "__bool__" 1 (spD K W (f_Sizes___bool__) 1)) (G_Sizes___sub__ : CalM P w K mg base (W.cl 2) "__sub__" 5 (spD K W (f_Sizes___sub__) 2)) : FnOk P w K mg base (L2.CX P w) 6 f fd ["self", "other"] (spD K W (f_Sizes_within) 2) :=
  okD F sc_Sizes_within fun cdv A outer s H E hr =>
  (S_one (S_ret (d_ownNot G_Sizes___bool__ (hr.mono (by decide)) (c_own2 G_Sizes___sub__ rfl (hr.mono (by decide)) T.sf2 (dv 0) (dv 1)))))
theorem ok__law_number {f : Addr} {fd : FuncData} (F : Fun K "_law_number" "_law_number" s__law_number f fd) (T : Txt K w mg W)  : FnOk P w K mg base (L2.CX P w) 1 f fd ["_law_script", "_law_index"] (spD K W (f__law_number W) 2) :=
  okD F sc__law_number fun cdv A outer s H E hr =>
  (S_cons (S_if (t_scrNil hr.units (dv 0) (d_lst ds_nil)) (S_one (S_ret (d_Ty call_int1 q_int rfl T.b_int (by decide +kernel) (ds_cons (d_mod (d_add (d_mul (dv 1) d_int) d_int) d_int) ds_nil)))) S_nil)
  (S_cons (S_asg (d_ixS (dv 0) (d_mod (dv 1) (d_B call_len q_lenS rfl T.b_len (by decide +kernel) (ds_cons (dv 0) ds_nil)))) (pg_name (i := 2) sc__law_number.nd rfl (Or.inl rfl)) (q_gV 2))
  (S_cons (S_if (t_ge (d_B call_abs q_abs rfl T.b_abs (by decide +kernel) (ds_cons (dv 2) ds_nil)) (d_pow d_int d_int)) (S_one (S_asg (d_mod (dv 2) (d_pow d_int d_int)) (pg_name (i := 2) sc__law_number.nd rfl (Or.inl rfl)) (q_gV 2))) S_nil)
  (S_cons (S_asg (d_mod (d_add (d_mul (d_add (dv 2) (d_mul d_int (dv 1))) d_int) (d_mul d_int (d_B call_len q_lenS rfl T.b_len (by decide +kernel) (ds_cons (dv 0) ds_nil)))) d_int) (pg_name (i := 3) sc__law_number.nd rfl (Or.inl rfl)) (q_gV 3))
  (S_one (S_ret (d_Ty call_int1 q_int rfl T.b_int (by decide +kernel) (ds_cons (d_mod (d_add (d_mul (d_mod (d_mul (dv 3) d_int) d_int) d_int) (dv 1)) d_int) ds_nil))))))))
theorem ok__law_take {f : Addr} {fd : FuncData} (F : Fun K "_law_take" "_law_take" s__law_take f fd) (T : Txt K w mg W) (G__law_number : Cal P w K mg base "_law_number" 1 (spD K W (f__law_number W) 2)) : FnOk P w K mg base (L2.CX P w) 2 f fd ["_law_draw", "_law_many"] (spD K W (f__law_take W) 2) :=
  okD F sc__law_take fun cdv A outer s H E hr =>
  (S_cons (S_drw (dv 0))
  (S_one (S_ret (d_mod (d_Ty call_int1 q_int rfl T.b_int (by decide +kernel) (ds_cons (c_call G__law_number (hr.mono (by decide)) rfl (ds_cons (d_drw0 (dv 0)) (ds_cons (d_Ty call_int1 q_int rfl T.b_int (by decide +kernel) (ds_cons (d_drw1 (dv 0)) ds_nil)) ds_nil)) (al_cons (al_cons al_nil))) ds_nil)) (dv 1)))))
theorem ok__law_pick {f : Addr} {fd : FuncData} (F : Fun K "_law_pick" "_law_pick" s__law_pick f fd) (T : Txt K w mg W) (G__law_take : Cal P w K mg base "_law_take" 2 (spD K W (f__law_take W) 2)) : FnOk P w K mg base (L2.CX P w) 3 f fd ["_law_draw", "_law_items"] (spD K W (f__law_pick W) 2) :=
  okD F sc__law_pick fun cdv A outer s H E hr =>
  (S_one (S_ret (d_ixA hr.units (dv 1) (c_call G__law_take (hr.mono (by decide)) rfl (ds_cons (dv 0) (ds_cons (d_B call_len q_len rfl T.b_len (by decide +kernel) (ds_cons (dv 1) ds_nil)) ds_nil)) (al_cons (al_cons al_nil))))))
theorem ok__law_set {f : Addr} {fd : FuncData} (F : Fun K "_law_set" "_law_set" s__law_set f fd) (T : Txt K w mg W) (G__law_pick : Cal P w K mg base "_law_pick" 3 (spD K W (f__law_pick W) 2)) (G__law_take : Cal P w K mg base "_law_take" 2 (spD K W (f__law_take W) 2)) (G_Sizes___init__ : CalI P w K mg base (W.cl 2) "Sizes" 3 (spI K W (f_Sizes___init__) 2 4)) : FnOk P w K mg base (L2.CX P w) 5 f fd ["_law_draw"] (spD K W (f__law_set W) 1) :=
  okD F sc__law_set fun cdv A outer s H E hr =>
  (S_cons (S_par2 (ps_par (i := 1) (j := 2) rfl sc__law_set.nd rfl rfl (by decide) rfl rfl (ds_cons (c_call G__law_take (hr.mono (by decide)) rfl (ds_cons (dv 0) (ds_cons d_int ds_nil)) (al_cons (al_cons al_nil))) (ds_cons (c_call G__law_pick (hr.mono (by decide)) rfl (ds_cons (dv 0) (ds_cons (d_lst (ds_cons d_int (ds_cons d_int (ds_cons d_int (ds_cons d_int (ds_cons d_int (ds_cons d_int (ds_cons d_int ds_nil)))))))) ds_nil)) (al_cons (al_cons al_nil))) ds_nil)) (by rfl)))
  (S_cons (S_asg (d_Ty call_tuple_of q_tupOf rfl T.b_tuple (by decide +kernel) (ds_cons (d_comp rfl sc__law_set.nd (i_rng1 rfl T.b_range (ds_cons (dv 1) ds_nil)) (blkOk_by (own := [("_law_at", 5)]) (N := N__law_set) (sc := defScope s__law_set) (by decide +kernel)) (fun _ _ _ _ _ => (pg_name (i := 5) sc__law_set.nd rfl (Or.inl rfl))) (q_gV 5) (by decide) (fun _ _ _ _ _ => (ts_one (t_eq hr.units (c_call G__law_take (hr.mono (by decide)) rfl (ds_cons (dv 0) (ds_cons d_int ds_nil)) (al_cons (al_cons al_nil))) d_int))) (fun _ _ _ _ _ => (dv 5))) ds_nil)) (pg_name (i := 3) sc__law_set.nd rfl (Or.inl rfl)) (q_gV 3))
  (S_cons (S_asg (d_Ty call_tuple_of q_tupOf rfl T.b_tuple (by decide +kernel) (ds_cons (d_comp rfl sc__law_set.nd (i_rng1 rfl T.b_range (ds_cons (dv 2) ds_nil)) (blkOk_by (own := [("_law_at", 5)]) (N := N__law_set) (sc := defScope s__law_set) (by decide +kernel)) (fun _ _ _ _ _ => (pg_name (i := 5) sc__law_set.nd rfl (Or.inl rfl))) (q_gV 5) (by decide) (fun _ _ _ _ _ => (ts_one (t_eq hr.units (c_call G__law_take (hr.mono (by decide)) rfl (ds_cons (dv 0) (ds_cons d_int ds_nil)) (al_cons (al_cons al_nil))) d_int))) (fun _ _ _ _ _ => (dv 5))) ds_nil)) (pg_name (i := 4) sc__law_set.nd rfl (Or.inl rfl)) (q_gV 4))
  (S_one (S_ret (c_make G_Sizes___init__ (hr.mono (by decide)) rfl (ds_cons (dv 3) (ds_cons (dv 1) (ds_cons (dv 2) (ds_cons (dv 4) ds_nil)))) (al_cons (al_cons (al_cons (al_cons al_nil))))))))))
theorem ok__law_form {f : Addr} {fd : FuncData} (F : Fun K "_law_form" "_law_form" s__law_form f fd) (T : Txt K w mg W)  : FnOk P w K mg base (L2.CX P w) 1 f fd ["_law_sizes"] (spD K W (f__law_form) 1) :=
  okD F sc__law_form fun cdv A outer s H E hr =>
  (S_one (S_ret (d_tup (ds_cons (d_fld T.cl2 T.n2_early (dv 0)) (ds_cons (d_fld T.cl2 T.n2_start (dv 0)) (ds_cons (d_fld T.cl2 T.n2_period (dv 0)) (ds_cons (d_fld T.cl2 T.n2_later (dv 0)) ds_nil)))))))
theorem ok__law_same {f : Addr} {fd : FuncData} (F : Fun K "_law_same" "_law_same" s__law_same f fd) (T : Txt K w mg W) (G__law_form : Cal P w K mg base "_law_form" 1 (spD K W (f__law_form) 1)) (G_Sizes___eq__ : CalM P w K mg base (W.cl 2) "__eq__" 1 (spD K W (f_Sizes___eq__) 2)) : FnOk P w K mg base (L2.CX P w) 3 f fd ["_law_one", "_law_two"] (spD K W (f__law_same) 2) :=
  okD F sc__law_same fun cdv A outer s H E hr =>
  (S_one (S_ret (d_and (d_ownEq (u0 hr.units) G_Sizes___eq__ (hr.mono (by decide)) (dv 0) (dv 1)) (d_and (d_not (d_ownNe (u1 hr.units) G_Sizes___eq__ (hr.mono (by decide)) T.ne2 T.ob2 (dv 0) (dv 1))) (d_one (d_eq hr.units (c_call G__law_form (hr.mono (by decide)) rfl (ds_cons (dv 0) ds_nil) (al_cons al_nil)) (c_call G__law_form (hr.mono (by decide)) rfl (ds_cons (dv 1) ds_nil) (al_cons al_nil))))))))
theorem body_law {f : Addr} {fd : FuncData} (F : Fun K "law" "law" s_law f fd) (T : Txt K w mg W) (G__law_form : Cal P w K mg base "_law_form" 1 (spD K W (f__law_form) 1)) (G__law_same : Cal P w K mg base "_law_same" 3 (spD K W (f__law_same) 2)) (G__law_set : Cal P w K mg base "_law_set" 5 (spD K W (f__law_set W) 1)) (G__law_take : Cal P w K mg base "_law_take" 2 (spD K W (f__law_take W) 2)) (G_Sizes___init__ : CalI P w K mg base (W.cl 2) "Sizes" 3 (spI K W (f_Sizes___init__) 2 4)) (G_Sizes___and__ : CalM P w K mg base (W.cl 2) "__and__" 5 (spD K W (f_Sizes___and__) 2)) (G_Sizes___bool__ : CalM P w K mg base (W.cl 2) "__bool__" 1 (spD K W (f_Sizes___bool__) 1)) (G_Sizes___contains__ : CalM P w K mg base (W.cl 2) "__contains__" 2 (spD K W (f_Sizes___contains__) 2)) (G_Sizes___eq__ : CalM P w K mg base (W.cl 2) "__eq__" 1 (spD K W (f_Sizes___eq__) 2)) (G_Sizes___invert__ : CalM P w K mg base (W.cl 2) "__invert__" 5 (spD K W (f_Sizes___invert__) 1)) (G_Sizes___or__ : CalM P w K mg base (W.cl 2) "__or__" 5 (spD K W (f_Sizes___or__) 2)) (G_Sizes___sub__ : CalM P w K mg base (W.cl 2) "__sub__" 5 (spD K W (f_Sizes___sub__) 2)) (G_Sizes_first : CalM P w K mg base (W.cl 2) "first" 1 (spD K W (f_Sizes_first) 2)) (G_Sizes_least : CalM P w K mg base (W.cl 2) "least" 1 (spD K W (f_Sizes_least) 1)) (G_Sizes_within : CalM P w K mg base (W.cl 2) "within" 6 (spD K W (f_Sizes_within) 2)) (G_Sizes_many : CalP P w K mg base (W.cl 2) "many" 1 (spD K W (f_Sizes_many) 1)) {cc PP : Addr} (TBc : LamX.TabB base mg cc PP) (hTb : W.tb = [(PP, (("law" : Str) ++ (".<locals>." : Str)) ++ ("<lambda>" : Str))]) {cdv : Value} (hcd : cdv = .ref cc) {k : Nat} (hk : 9 ≤ k) : ∀ (A : Around) (outer : List PySem.Env) (s : Shared) (H : Hp) (E : XK), Room k (A.deeper (envOfC "law" (defScope s_law) s.heap.objs.size f cdv)) → PDSs (cxOf (L2.CX P w) P w K mg base N_law "law" (defScope s_law) f cdv A outer s H E) W ((defBody s_law).drop 1) (g_law W) := fun A outer s H E hr0 => by
  have hr := hr0.mono hk
  exact (S_cons (S_asg (d_tup (ds_cons (c_call G__law_set (hr.mono (by decide)) rfl (ds_cons (dv 1) ds_nil) (al_cons al_nil)) (ds_cons (c_call G__law_set (hr.mono (by decide)) rfl (ds_cons (dv 1) ds_nil) (al_cons al_nil)) (ds_cons (c_call G__law_set (hr.mono (by decide)) rfl (ds_cons (dv 1) ds_nil) (al_cons al_nil)) ds_nil)))) (pg_tup rfl (pgs_cons (pg_name (i := 2) sc_law.nd rfl (Or.inr rfl)) (pgs_cons (pg_name (i := 3) sc_law.nd rfl (Or.inl rfl)) (pgs_cons (pg_name (i := 4) sc_law.nd rfl (Or.inl rfl)) pgs_nil)))) (q_gT (q_gsC (q_gV 2) (q_gsC (q_gV 3) (q_gsC (q_gV 4) q_gsN))) (gl_C (gl_C (gl_C gl_N)))))
  (S_cons (S_par2 (ps_par (i := 5) (j := 6) rfl sc_law.nd rfl rfl (by decide) rfl rfl (ds_cons (c_own2 G_Sizes___sub__ rfl (hr.mono (by decide)) T.sf2 (dv 2) (dv 2)) (ds_cons (c_own2 G_Sizes___or__ rfl (hr.mono (by decide)) T.sf2 (dv 2) (d_ownInv G_Sizes___invert__ (hr.mono (by decide)) (dv 2))) ds_nil)) (by rfl)))
  (S_cons (S_if (t_w (w_or (t_ne hr.units (c_call G__law_form (hr.mono (by decide)) rfl (ds_cons (dv 5) ds_nil) (al_cons al_nil)) (d_tup (ds_cons (d_tup ds_nil) (ds_cons d_int (ds_cons d_int (ds_cons (d_tup ds_nil) ds_nil)))))) (w_or1 (t_ne hr.units (c_call G__law_form (hr.mono (by decide)) rfl (ds_cons (dv 6) ds_nil) (al_cons al_nil)) (d_tup (ds_cons (d_tup ds_nil) (ds_cons d_int (ds_cons d_int (ds_cons (d_tup (ds_cons d_int ds_nil)) ds_nil))))))))) (S_one (S_ret d_bl)) S_nil)
  (S_cons (S_ownN (i := 7) sc_law.nd rfl (Or.inl rfl) (n_lst (ds_cons (d_tup (ds_cons (c_own2 G_Sizes___and__ rfl (hr.mono (by decide)) T.sf2 (dv 2) (dv 3)) (ds_cons (c_own2 G_Sizes___and__ rfl (hr.mono (by decide)) T.sf2 (dv 3) (dv 2)) ds_nil))) (ds_cons (d_tup (ds_cons (c_own2 G_Sizes___or__ rfl (hr.mono (by decide)) T.sf2 (dv 2) (dv 3)) (ds_cons (c_own2 G_Sizes___or__ rfl (hr.mono (by decide)) T.sf2 (dv 3) (dv 2)) ds_nil))) (ds_cons (d_tup (ds_cons (c_own2 G_Sizes___and__ rfl (hr.mono (by decide)) T.sf2 (c_own2 G_Sizes___and__ rfl (hr.mono (by decide)) T.sf2 (dv 2) (dv 3)) (dv 4)) (ds_cons (c_own2 G_Sizes___and__ rfl (hr.mono (by decide)) T.sf2 (dv 2) (c_own2 G_Sizes___and__ rfl (hr.mono (by decide)) T.sf2 (dv 3) (dv 4))) ds_nil))) (ds_cons (d_tup (ds_cons (c_own2 G_Sizes___or__ rfl (hr.mono (by decide)) T.sf2 (c_own2 G_Sizes___or__ rfl (hr.mono (by decide)) T.sf2 (dv 2) (dv 3)) (dv 4)) (ds_cons (c_own2 G_Sizes___or__ rfl (hr.mono (by decide)) T.sf2 (dv 2) (c_own2 G_Sizes___or__ rfl (hr.mono (by decide)) T.sf2 (dv 3) (dv 4))) ds_nil))) (ds_cons (d_tup (ds_cons (c_own2 G_Sizes___and__ rfl (hr.mono (by decide)) T.sf2 (dv 2) (c_own2 G_Sizes___or__ rfl (hr.mono (by decide)) T.sf2 (dv 3) (dv 4))) (ds_cons (c_own2 G_Sizes___or__ rfl (hr.mono (by decide)) T.sf2 (c_own2 G_Sizes___and__ rfl (hr.mono (by decide)) T.sf2 (dv 2) (dv 3)) (c_own2 G_Sizes___and__ rfl (hr.mono (by decide)) T.sf2 (dv 2) (dv 4))) ds_nil))) (ds_cons (d_tup (ds_cons (c_own2 G_Sizes___or__ rfl (hr.mono (by decide)) T.sf2 (dv 2) (c_own2 G_Sizes___and__ rfl (hr.mono (by decide)) T.sf2 (dv 3) (dv 4))) (ds_cons (c_own2 G_Sizes___and__ rfl (hr.mono (by decide)) T.sf2 (c_own2 G_Sizes___or__ rfl (hr.mono (by decide)) T.sf2 (dv 2) (dv 3)) (c_own2 G_Sizes___or__ rfl (hr.mono (by decide)) T.sf2 (dv 2) (dv 4))) ds_nil))) ds_nil))))))))
  (S_cons (S_ext (i := 7) sc_law.nd rfl (Or.inl rfl) (d_lst (ds_cons (d_tup (ds_cons (d_ownInv G_Sizes___invert__ (hr.mono (by decide)) (c_own2 G_Sizes___and__ rfl (hr.mono (by decide)) T.sf2 (dv 2) (dv 3))) (ds_cons (c_own2 G_Sizes___or__ rfl (hr.mono (by decide)) T.sf2 (d_ownInv G_Sizes___invert__ (hr.mono (by decide)) (dv 2)) (d_ownInv G_Sizes___invert__ (hr.mono (by decide)) (dv 3))) ds_nil))) (ds_cons (d_tup (ds_cons (d_ownInv G_Sizes___invert__ (hr.mono (by decide)) (c_own2 G_Sizes___or__ rfl (hr.mono (by decide)) T.sf2 (dv 2) (dv 3))) (ds_cons (c_own2 G_Sizes___and__ rfl (hr.mono (by decide)) T.sf2 (d_ownInv G_Sizes___invert__ (hr.mono (by decide)) (dv 2)) (d_ownInv G_Sizes___invert__ (hr.mono (by decide)) (dv 3))) ds_nil))) (ds_cons (d_tup (ds_cons (d_ownInv G_Sizes___invert__ (hr.mono (by decide)) (d_ownInv G_Sizes___invert__ (hr.mono (by decide)) (dv 2))) (ds_cons (dv 2) ds_nil))) (ds_cons (d_tup (ds_cons (c_own2 G_Sizes___sub__ rfl (hr.mono (by decide)) T.sf2 (dv 2) (dv 3)) (ds_cons (c_own2 G_Sizes___and__ rfl (hr.mono (by decide)) T.sf2 (dv 2) (d_ownInv G_Sizes___invert__ (hr.mono (by decide)) (dv 3))) ds_nil))) (ds_cons (d_tup (ds_cons (c_own2 G_Sizes___or__ rfl (hr.mono (by decide)) T.sf2 (c_own2 G_Sizes___sub__ rfl (hr.mono (by decide)) T.sf2 (dv 2) (dv 3)) (c_own2 G_Sizes___and__ rfl (hr.mono (by decide)) T.sf2 (dv 2) (dv 3))) (ds_cons (dv 2) ds_nil))) (ds_cons (d_tup (ds_cons (c_own2 G_Sizes___and__ rfl (hr.mono (by decide)) T.sf2 (dv 2) (c_own2 G_Sizes___or__ rfl (hr.mono (by decide)) T.sf2 (dv 2) (dv 3))) (ds_cons (dv 2) ds_nil))) (ds_cons (d_tup (ds_cons (c_own2 G_Sizes___or__ rfl (hr.mono (by decide)) T.sf2 (dv 2) (c_own2 G_Sizes___and__ rfl (hr.mono (by decide)) T.sf2 (dv 2) (dv 3))) (ds_cons (dv 2) ds_nil))) (ds_cons (d_tup (ds_cons (c_own2 G_Sizes___and__ rfl (hr.mono (by decide)) T.sf2 (dv 2) (dv 5)) (ds_cons (dv 5) ds_nil))) (ds_cons (d_tup (ds_cons (c_own2 G_Sizes___or__ rfl (hr.mono (by decide)) T.sf2 (dv 2) (dv 5)) (ds_cons (dv 2) ds_nil))) (ds_cons (d_tup (ds_cons (c_own2 G_Sizes___and__ rfl (hr.mono (by decide)) T.sf2 (dv 2) (dv 6)) (ds_cons (dv 2) ds_nil))) ds_nil))))))))))))
  (S_frz (i := 7) (S_cons (S_if (t_not (t_tru (d_B (cr_all rfl) q_all rfl T.b_all (by decide +kernel) (ds_cons (d_comp rfl sc_law.nd (i_of (dv 7)) (blkOk_by (own := [("_law_one", 10), ("_law_two", 11)]) (N := N_law) (sc := defScope s_law) (by decide +kernel)) (fun _ _ _ _ _ => (pg_tup rfl (pgs_cons (pg_name (i := 10) sc_law.nd rfl (Or.inl rfl)) (pgs_cons (pg_name (i := 11) sc_law.nd rfl (Or.inl rfl)) pgs_nil)))) (q_gT (q_gsC (q_gV 10) (q_gsC (q_gV 11) q_gsN)) (gl_C (gl_C gl_N))) (by decide) (fun _ _ _ _ _ => ts_nil) (fun _ _ _ _ _ => (c_call G__law_same (hr.mono (by decide)) rfl (ds_cons (dv 10) (ds_cons (dv 11) ds_nil)) (al_cons (al_cons al_nil))))) ds_nil)))) (S_one (S_ret d_bl)) S_nil)
  (S_cons (S_if (t_w (w_or (t_not (t_tru (c_meth G_Sizes_within (hr.mono (by decide)) T.cl2 (c_own2 G_Sizes___and__ rfl (hr.mono (by decide)) T.sf2 (dv 2) (dv 3)) (ds_cons (dv 2) ds_nil) (al_cons al_nil)))) (w_or (t_not (t_tru (c_meth G_Sizes_within (hr.mono (by decide)) T.cl2 (dv 2) (ds_cons (c_own2 G_Sizes___or__ rfl (hr.mono (by decide)) T.sf2 (dv 2) (dv 3)) ds_nil) (al_cons al_nil)))) (w_or (t_ne hr.units (c_meth G_Sizes_within (hr.mono (by decide)) T.cl2 (dv 2) (ds_cons (dv 3) ds_nil) (al_cons al_nil)) (d_ownEq (u0 hr.units) G_Sizes___eq__ (hr.mono (by decide)) (c_own2 G_Sizes___sub__ rfl (hr.mono (by decide)) T.sf2 (dv 2) (dv 3)) (dv 5))) (w_or (t_tru (d_boolO G_Sizes___bool__ (hr.mono (by decide)) rfl T.b_bool (dv 5))) (w_or (t_notN (c_meth0 G_Sizes_least (hr.mono (by decide)) T.cl2 (dv 5))) (w_or1 (t_ne hr.units (c_prop G_Sizes_many (hr.mono (by decide)) T.cl2 (dv 5)) d_int)))))))) (S_one (S_ret d_bl)) S_nil)
  (S_cons (S_setComp (i := 8) rfl sc_law.nd rfl rfl (sw_true rfl rfl rfl (by decide +kernel)) (i_of (d_tup (ds_cons (c_meth0 G_Sizes_least (hr.mono (by decide)) T.cl2 (dv 2)) (ds_cons (c_meth0 G_Sizes_least (hr.mono (by decide)) T.cl2 (dv 3)) ds_nil)))) (blkOk_by (own := [("_law_size", 13)]) (N := N_law) (sc := defScope s_law) (by decide +kernel)) (fun _ _ _ _ _ => (pg_name (i := 13) sc_law.nd rfl (Or.inl rfl))) (q_gV 13) (by decide) (fun _ _ _ _ _ => (ts_one (t_notN (dv 13)))) (fun _ _ _ _ _ => (dv 13)))
  (S_cons (S_if (t_ne hr.units (c_meth0 G_Sizes_least (hr.mono (by decide)) T.cl2 (c_own2 G_Sizes___or__ rfl (hr.mono (by decide)) T.sf2 (dv 2) (dv 3))) (d_if (t_ne hr.units (dv 8) (d_lst ds_nil)) (d_B (cr_min rfl) q_minL rfl T.b_min (by decide +kernel) (ds_cons (dv 8) ds_nil)) d_non)) (S_one (S_ret d_bl)) S_nil)
  (S_cons (S_if (t_w (w_and (t_notN (c_prop G_Sizes_many (hr.mono (by decide)) T.cl2 (dv 2))) (w_and (t_notN (c_prop G_Sizes_many (hr.mono (by decide)) T.cl2 (dv 3))) (w_and1 (t_ne hr.units (c_prop G_Sizes_many (hr.mono (by decide)) T.cl2 (c_own2 G_Sizes___or__ rfl (hr.mono (by decide)) T.sf2 (dv 2) (dv 3))) (d_sub (d_add (c_prop G_Sizes_many (hr.mono (by decide)) T.cl2 (dv 2)) (c_prop G_Sizes_many (hr.mono (by decide)) T.cl2 (dv 3))) (c_prop G_Sizes_many (hr.mono (by decide)) T.cl2 (c_own2 G_Sizes___and__ rfl (hr.mono (by decide)) T.sf2 (dv 2) (dv 3))))))))) (S_one (S_ret d_bl)) S_nil)
  (S_cons (S_if (t_isN (c_prop G_Sizes_many (hr.mono (by decide)) T.cl2 (dv 2))) (S_cons (S_asg (c_meth G_Sizes_first (hr.mono (by decide)) T.cl2 (dv 2) (ds_cons d_int ds_nil) (al_cons al_nil)) (pg_name (i := 9) sc_law.nd rfl (Or.inl rfl)) (q_gV 9))
  (S_one (S_if (t_w (w_or (t_ne hr.units (dv 9) (d_B call_sortedA q_sorted rfl T.b_sorted (by decide +kernel) (ds_cons (dv 9) ds_nil))) (w_or (t_ne hr.units (d_lenSet rfl T.b_len rfl T.b_set (dv 9)) d_int) (w_or (t_not (t_tru (d_B (cr_all rfl) q_all rfl T.b_all (by decide +kernel) (ds_cons (d_comp rfl sc_law.nd (i_of (dv 9)) (blkOk_by (own := [("_law_size", 13)]) (N := N_law) (sc := defScope s_law) (by decide +kernel)) (fun _ _ _ _ _ => (pg_name (i := 13) sc_law.nd rfl (Or.inl rfl))) (q_gV 13) (by decide) (fun _ _ _ _ _ => ts_nil) (fun _ _ _ _ _ => (d_ownIn G_Sizes___contains__ (hr.mono (by decide)) (dv 13) (dv 2)))) ds_nil)))) (w_or1 (t_ne hr.units (d_cut (dv 9) o_none (o_some d_int)) (c_meth G_Sizes_first (hr.mono (by decide)) T.cl2 (dv 2) (ds_cons d_int ds_nil) (al_cons al_nil)))))))) (S_one (S_ret d_bl)) S_nil))) S_nil)
  (S_cons (S_if (t_gt (c_call G__law_take (hr.mono (by decide)) rfl (ds_cons (dv 1) (ds_cons d_int ds_nil)) (al_cons (al_cons al_nil))) d_int) (S_one (S_ret d_bl)) S_nil)
  (S_cons (S_asg (d_tup (ds_cons (c_make G_Sizes___init__ (hr.mono (by decide)) rfl (ds_cons (d_tup ds_nil) (ds_cons d_int (ds_cons d_int (ds_cons (d_tup (ds_cons d_int ds_nil)) ds_nil)))) (al_cons (al_cons (al_cons (al_cons al_nil))))) (ds_cons (c_make G_Sizes___init__ (hr.mono (by decide)) rfl (ds_cons (d_tup ds_nil) (ds_cons d_int (ds_cons d_int (ds_cons (d_tup (ds_cons d_int ds_nil)) ds_nil)))) (al_cons (al_cons (al_cons (al_cons al_nil))))) (ds_cons (c_make G_Sizes___init__ (hr.mono (by decide)) rfl (ds_cons (d_tup ds_nil) (ds_cons d_int (ds_cons d_int (ds_cons (d_tup (ds_cons d_int (ds_cons d_int ds_nil))) ds_nil)))) (al_cons (al_cons (al_cons (al_cons al_nil))))) ds_nil)))) (pg_tup rfl (pgs_cons (pg_name (i := 10) sc_law.nd rfl (Or.inr rfl)) (pgs_cons (pg_name (i := 11) sc_law.nd rfl (Or.inr rfl)) (pgs_cons (pg_name (i := 12) sc_law.nd rfl (Or.inl rfl)) pgs_nil)))) (q_gT (q_gsC (q_gV 10) (q_gsC (q_gV 11) (q_gsC (q_gV 12) q_gsN))) (gl_C (gl_C (gl_C gl_N)))))
  (S_cons (S_if (t_not (t_tru (d_lamF (k := 7) T.lf__law_is_refused rfl TBc hcd hTb (hr.mono (by decide)) (LamX.lamS_by (sc := defScope s_law) (by decide +kernel)) rfl (fun _ _ _ _ _ => rfl) T.tr1 (fun A outer s H E f' c' hr => (c_own2 G_Sizes___and__ rfl (hr.mono (by decide)) T.sf2 (dv 10) (dv 11)))))) (S_one (S_ret d_bl)) S_nil)
  (S_cons (S_if (t_not (t_tru (d_lamF (k := 7) T.lf__law_is_refused rfl TBc hcd hTb (hr.mono (by decide)) (LamX.lamS_by (sc := defScope s_law) (by decide +kernel)) rfl (fun _ _ _ _ _ => rfl) T.tr1 (fun A outer s H E f' c' hr => (c_own2 G_Sizes___or__ rfl (hr.mono (by decide)) T.sf2 (dv 10) (dv 11)))))) (S_one (S_ret d_bl)) S_nil)
  (S_cons (S_if (t_not (t_tru (d_lamF (k := 7) T.lf__law_is_refused rfl TBc hcd hTb (hr.mono (by decide)) (LamX.lamS_by (sc := defScope s_law) (by decide +kernel)) rfl (fun _ _ _ _ _ => rfl) T.tr1 (fun A outer s H E f' c' hr => (c_own2 G_Sizes___sub__ rfl (hr.mono (by decide)) T.sf2 (dv 10) (dv 11)))))) (S_one (S_ret d_bl)) S_nil)
  (S_cons (S_if (t_not (t_tru (d_lamF (k := 7) T.lf__law_is_refused rfl TBc hcd hTb (hr.mono (by decide)) (LamX.lamS_by (sc := defScope s_law) (by decide +kernel)) rfl (fun _ _ _ _ _ => rfl) T.tr1 (fun A outer s H E f' c' hr => (c_meth G_Sizes_within (hr.mono (by decide)) T.cl2 (dv 11) (ds_cons (dv 10) ds_nil) (al_cons al_nil)))))) (S_one (S_ret d_bl)) S_nil)
  (S_cons (S_if (t_w (w_or (t_ne hr.units (d_fld T.cl2 T.n2_later (c_own2 G_Sizes___and__ rfl (hr.mono (by decide)) T.sf2 (dv 12) (dv 11))) (d_tup (ds_cons d_int ds_nil))) (w_or (t_ne hr.units (d_fld T.cl2 T.n2_period (c_own2 G_Sizes___or__ rfl (hr.mono (by decide)) T.sf2 (dv 12) (dv 11))) d_int) (w_or1 (t_not (t_tru (c_meth G_Sizes_within (hr.mono (by decide)) T.cl2 (c_own2 G_Sizes___and__ rfl (hr.mono (by decide)) T.sf2 (dv 12) (dv 11)) (ds_cons (dv 11) ds_nil) (al_cons al_nil)))))))) (S_one (S_ret d_bl)) S_nil)
  (S_one (S_ret (d_and (d_eq hr.units (c_call G__law_form (hr.mono (by decide)) rfl (ds_cons (dv 10) ds_nil) (al_cons al_nil)) (d_tup (ds_cons (d_tup ds_nil) (ds_cons d_int (ds_cons d_int (ds_cons (d_tup (ds_cons d_int ds_nil)) ds_nil)))))) (d_one (d_eq hr.units (c_call G__law_form (hr.mono (by decide)) rfl (ds_cons (dv 11) ds_nil) (al_cons al_nil)) (d_tup (ds_cons (d_tup ds_nil) (ds_cons d_int (ds_cons d_int (ds_cons (d_tup (ds_cons d_int ds_nil)) ds_nil)))))))))))))))))))))))))))))
end
end P_k36_whole_set_identities
end

section
set_option Elab.async false
set_option linter.all false
set_option autoImplicit false
set_option maxRecDepth 100000
/-! evaluating the functions over plain data -/
namespace DL
open PySem L2
/-- the ways on, by names of their own (no match stands in a goal) -/
def bindR {α β : Type} (r : Option (Except Xc α × Int)) (k : α → M β) : Option (Except Xc β × Int) := match r with
  | none => none
  | some (.ok x, n1) => k x n1
  | some (.error e, n1) => some (.error e, n1)
@[simp] theorem bindR_ok {α β : Type} (x : α) (n : Int) (k : α → M β) : bindR (some (.ok x, n)) k = k x n := (rfl)
@[simp] theorem bindR_none {α β : Type} (k : α → M β) : bindR none k = none := (rfl)
@[simp] theorem bindR_err {α β : Type} (e : Xc) (n : Int) (k : α → M β) : bindR (some (.error e, n)) k = some (.error e, n) := (rfl)
def selB {α : Type} (b : Bool) (x y : α) : α := match b with | true => x | false => y
@[simp] theorem selB_true {α : Type} (x y : α) : selB true x y = x := (rfl)
@[simp] theorem selB_false {α : Type} (x y : α) : selB false x y = y := (rfl)
def seqK (h : SX) (o : Out) : M Out := match o with
  | .nx ρ' => h ρ'
  | .bk ρ' => M.pure (.bk ρ')
  | .ct ρ' => M.pure (.ct ρ')
  | .ret d => M.pure (.ret d)
@[simp] theorem seqK_nx (h : SX) (ρ : Env) : seqK h (.nx ρ) = h ρ := (rfl)
@[simp] theorem seqK_bk (h : SX) (ρ : Env) : seqK h (.bk ρ) = M.pure (.bk ρ) := (rfl)
@[simp] theorem seqK_ct (h : SX) (ρ : Env) : seqK h (.ct ρ) = M.pure (.ct ρ) := (rfl)
@[simp] theorem seqK_ret (h : SX) (d : D) : seqK h (.ret d) = M.pure (.ret d) := (rfl)
def runK (o : Out) : M D := match o with
  | .ret d => M.pure d
  | .nx _ => M.pure .non
  | _ => M.opt none
@[simp] theorem runK_ret (d : D) : runK (.ret d) = M.pure d := (rfl)
@[simp] theorem runK_nx (ρ : Env) : runK (.nx ρ) = M.pure .non := (rfl)
def runIK (o : Out) : M D := match o with
  | .nx (Sl.own d :: _) => M.pure d
  | _ => M.opt none
@[simp] theorem runIK_nx (d : D) (r : Env) : runIK (.nx (Sl.own d :: r)) = M.pure d := (rfl)
/-- behind a turn: on with k, or out -/
def turnK (k : Env → M Out) (o : Out) : M Out := match o with
  | .nx ρ2 => k ρ2
  | .ct ρ2 => k ρ2
  | .bk ρ2 => M.pure (.nx ρ2)
  | .ret d => M.pure (.ret d)
@[simp] theorem turnK_nx (k : Env → M Out) (ρ : Env) : turnK k (.nx ρ) = k ρ := (rfl)
@[simp] theorem turnK_ct (k : Env → M Out) (ρ : Env) : turnK k (.ct ρ) = k ρ := (rfl)
@[simp] theorem turnK_bk (k : Env → M Out) (ρ : Env) : turnK k (.bk ρ) = M.pure (.nx ρ) := (rfl)
@[simp] theorem turnK_ret (k : Env → M Out) (d : D) : turnK k (.ret d) = M.pure (.ret d) := (rfl)
def makeK (c : Nat) (d : D) : M D := match d with
  | .obj c' ks vs => if c' = c then M.pure (.obj c' ks vs) else M.opt none
  | _ => M.opt none
@[simp] theorem makeK_obj (c : Nat) (ks : List Str) (vs : List D) : makeK c (.obj c ks vs) = M.pure (.obj c ks vs) := if_pos rfl
def intK (d : D) : Option (Option Int) := match d with | .int i => some (some i) | _ => none
@[simp] theorem intK_int (i : Int) : intK (.int i) = some (some i) := (rfl)
def chainK (o2 : D → D → Option D) (y : D) (fc : M D) (r : D) : M D := match r with
  | .bl true => M.bind fc fun z => M.opt (o2 y z)
  | .bl false => M.pure (.bl false)
  | _ => M.opt none
@[simp] theorem chainK_true (o2 : D → D → Option D) (y : D) (fc : M D) : chainK o2 y fc (.bl true) = M.bind fc fun z => M.opt (o2 y z) := (rfl)
@[simp] theorem chainK_false (o2 : D → D → Option D) (y : D) (fc : M D) : chainK o2 y fc (.bl false) = M.pure (.bl false) := (rfl)
def consO (y : Option D) (ys : List D) : List D := match y with | some z => z :: ys | none => ys
@[simp] theorem consO_some (z : D) (ys : List D) : consO (some z) ys = z :: ys := (rfl)
@[simp] theorem consO_none (ys : List D) : consO none ys = ys := (rfl)
def findK (o : Option D) (r : D → D) (ρ : Env) : Out := match o with | some d => .ret (r d) | none => .nx ρ
@[simp] theorem findK_some (d : D) (r : D → D) (ρ : Env) : findK (some d) r ρ = .ret (r d) := (rfl)
@[simp] theorem findK_none (r : D → D) (ρ : Env) : findK none r ρ = .nx ρ := (rfl)
@[simp] theorem bind_ap {α β : Type} (a : M α) (k : α → M β) (n : Int) : M.bind a k n = bindR (a n) k := (rfl)
@[simp] theorem pure_ap {α : Type} (a : α) (n : Int) : M.pure a n = some (.ok a, n) := (rfl)
@[simp] theorem opt_some {α : Type} (a : α) (n : Int) : M.opt (some a) n = some (.ok a, n) := (rfl)
@[simp] theorem opt_none {α : Type} (n : Int) : (M.opt (none : Option α)) n = none := (rfl)
@[simp] theorem eVar_0 (d : D) (r : Env) (n : Int) : eVar 0 (.val d :: r) n = some (.ok d, n) := (rfl)
@[simp] theorem eVar_s (i : Nat) (s : Sl) (r : Env) (n : Int) : eVar (i + 1) (s :: r) n = eVar i r n := (rfl)
@[simp] theorem eC_ap (d : D) (ρ : Env) (n : Int) : eC d ρ n = some (.ok d, n) := (rfl)
@[simp] theorem eNil_ap (ρ : Env) (n : Int) : eNil ρ n = some (.ok [], n) := (rfl)
@[simp] theorem eCons_ap (f : EX) (g : EXs) (ρ : Env) (n : Int) : eCons f g ρ n = M.bind (f ρ) (fun d => M.bind (g ρ) fun ds => M.pure (d :: ds)) n := (rfl)
@[simp] theorem eTup_ap (f : EXs) (ρ : Env) (n : Int) : eTup f ρ n = M.bind (f ρ) (fun ds => M.opt (mkTup ds)) n := (rfl)
@[simp] theorem eLst_ap (f : EXs) (ρ : Env) (n : Int) : eLst f ρ n = M.bind (f ρ) (fun ds => M.opt (mkLst ds)) n := (rfl)
@[simp] theorem e2_ap (op : D → D → Option D) (a b : EX) (ρ : Env) (n : Int) : e2 op a b ρ n = M.bind (a ρ) (fun x => M.bind (b ρ) fun y => M.opt (op x y)) n := (rfl)
@[simp] theorem e1_ap (op : D → Option D) (a : EX) (ρ : Env) (n : Int) : e1 op a ρ n = M.bind (a ρ) (fun x => M.opt (op x)) n := (rfl)
@[simp] theorem eB_ap (op : List D → Option D) (a : EXs) (ρ : Env) (n : Int) : eB op a ρ n = M.bind (a ρ) (fun x => M.opt (op x)) n := (rfl)
@[simp] theorem eCall_ap (fx : FX) (a : EXs) (ρ : Env) (n : Int) : eCall fx a ρ n = M.bind (a ρ) fx n := (rfl)
@[simp] theorem eMake_ap (c : Nat) (fx : FX) (a : EXs) (ρ : Env) (n : Int) : eMake c fx a ρ n = M.bind (a ρ) (fun ds => M.bind (fx ds) (makeK c)) n := (rfl)
@[simp] theorem eMeth_ap (c : Nat) (m : Str) (fx : FX) (fo : EX) (fs : EXs) (ρ : Env) (n : Int) : eMeth c m fx fo fs ρ n = M.bind (fo ρ) (fun o => if isObj c m o then M.bind (fs ρ) fun ds => fx (o :: ds) else M.opt none) n := (rfl)
@[simp] theorem eIf_ap (t : TX) (f g : EX) (ρ : Env) (n : Int) : eIf t f g ρ n = M.bind (t ρ) (fun b => selB b (f ρ) (g ρ)) n := (rfl)
@[simp] theorem eAnd_ap (f g : EX) (ρ : Env) (n : Int) : eAnd f g ρ n = M.bind (f ρ) (fun d => M.bind (M.opt (dTru d)) fun b => selB b (g ρ) (M.pure d)) n := (rfl)
@[simp] theorem eOr_ap (f g : EX) (ρ : Env) (n : Int) : eOr f g ρ n = M.bind (f ρ) (fun d => M.bind (M.opt (dTru d)) fun b => selB b (M.pure d) (g ρ)) n := (rfl)
@[simp] theorem eNot_ap (f : EX) (ρ : Env) (n : Int) : eNot f ρ n = M.bind (f ρ) (fun d => M.bind (M.opt (dTru d)) fun b => M.pure (.bl (!b))) n := (rfl)
@[simp] theorem eCut_ap (f : EX) (lo hi : EO) (ρ : Env) (n : Int) : eCut f lo hi ρ n = M.bind (f ρ) (fun x => M.bind (lo ρ) fun l => M.bind (hi ρ) fun h => M.opt (dCut x l h)) n := (rfl)
@[simp] theorem oNone_ap (ρ : Env) (n : Int) : oNone ρ n = some (.ok none, n) := (rfl)
@[simp] theorem oSome_ap (f : EX) (ρ : Env) (n : Int) : oSome f ρ n = M.bind (f ρ) (fun d => M.opt (intK d)) n := (rfl)
@[simp] theorem eChain_ap (o1 o2 : D → D → Option D) (fa fb fc : EX) (ρ : Env) (n : Int) : eChain o1 o2 fa fb fc ρ n = M.bind (fa ρ) (fun x => M.bind (fb ρ) fun y => M.bind (M.opt (o1 x y)) fun r => chainK o2 y (fc ρ) r) n := (rfl)
@[simp] theorem tB_ap (f : EX) (ρ : Env) (n : Int) : tB f ρ n = M.bind (f ρ) (fun d => M.opt (dBool d)) n := (rfl)
@[simp] theorem tTru_ap (f : EX) (ρ : Env) (n : Int) : tTru f ρ n = M.bind (f ρ) (fun d => M.opt (dTru d)) n := (rfl)
@[simp] theorem tAndD_ap (t u : TX) (ρ : Env) (n : Int) : tAndD t u ρ n = M.bind (t ρ) (fun b => selB b (u ρ) (M.pure false)) n := (rfl)
@[simp] theorem tOrD_ap (t u : TX) (ρ : Env) (n : Int) : tOrD t u ρ n = M.bind (t ρ) (fun b => selB b (M.pure true) (u ρ)) n := (rfl)
@[simp] theorem tNotD_ap (t : TX) (ρ : Env) (n : Int) : tNotD t ρ n = M.bind (t ρ) (fun b => M.pure (!b)) n := (rfl)
@[simp] theorem tYesD_ap (ρ : Env) (n : Int) : tYesD ρ n = some (.ok true, n) := (rfl)
@[simp] theorem dBool_bl (b : Bool) : dBool (.bl b) = some b := (rfl)
@[simp] theorem dTru_bl (b : Bool) : dTru (.bl b) = some b := (rfl)
@[simp] theorem isNon_non : isNon .non = true := (rfl)
@[simp] theorem isNon_int (i : Int) : isNon (.int i) = false := (rfl)
@[simp] theorem isNon_tup (xs : List D) : isNon (.tup xs) = false := (rfl)
@[simp] theorem sNx_ap (ρ : Env) (n : Int) : sNx ρ n = some (.ok (.nx ρ), n) := (rfl)
@[simp] theorem sSeq_ap (g h : SX) (ρ : Env) (n : Int) : sSeq g h ρ n = M.bind (g ρ) (seqK h) n := (rfl)
@[simp] theorem sRet_ap (f : EX) (ρ : Env) (n : Int) : sRet f ρ n = M.bind (f ρ) (fun d => M.pure (.ret d)) n := (rfl)
@[simp] theorem sExp_ap (f : EX) (ρ : Env) (n : Int) : sExp f ρ n = M.bind (f ρ) (fun _ => M.pure (.nx ρ)) n := (rfl)
@[simp] theorem sAsg_ap (g : GX) (f : EX) (ρ : Env) (n : Int) : sAsg g f ρ n = M.bind (f ρ) (fun d => M.bind (M.opt (g d ρ)) fun ρ' => M.pure (.nx ρ')) n := (rfl)
@[simp] theorem sIf_ap (t : TX) (g h : SX) (ρ : Env) (n : Int) : sIf t g h ρ n = M.bind (t ρ) (fun b => selB b (g ρ) (h ρ)) n := (rfl)
@[simp] theorem sFor_ap (g : GX) (it : IX) (b : SX) (ρ : Env) (n : Int) : sFor g it b ρ n = M.bind (it ρ) (fun ds => forD g b ds ρ) n := (rfl)
@[simp] theorem sWhile_ap (m : Env → Nat) (t : TX) (b : SX) (ρ : Env) (n : Int) : sWhile m t b ρ n = whileD t b (m ρ) ρ n := (rfl)
@[simp] theorem sAug_ap (i : Nat) (op : D → D → Option D) (f : EX) (ρ : Env) (n : Int) : sAug i op f ρ n = M.bind (eVar i ρ) (fun a => M.bind (f ρ) fun b => M.bind (M.opt (op a b)) fun d => M.pure (.nx (ρ.set i (.val d)))) n := (rfl)
@[simp] theorem sUp_ap (i : Nat) (up : D → D → Option D) (f : EX) (ρ : Env) (n : Int) : sUp i up f ρ n = M.bind (f ρ) (fun d => M.bind (M.opt ((own? ρ i).bind (up d))) fun o => M.pure (.nx (ρ.set i (.own o)))) n := (rfl)
@[simp] theorem sPar_ap (is : List Nat) (f : EXs) (ρ : Env) (n : Int) : sPar is f ρ n = M.bind (f ρ) (fun ds => if ds.length = is.length then M.pure (.nx ((is.zip ds).foldl (fun r p => r.set p.1 (.val p.2)) ρ)) else M.opt none) n := (rfl)
@[simp] theorem own_0 (d : D) (r : Env) : own? (.own d :: r) 0 = some d := (rfl)
@[simp] theorem own_s (i : Nat) (s : Sl) (r : Env) : own? (s :: r) (i + 1) = own? r i := (rfl)
@[simp] theorem gV_ap (i : Nat) (d : D) (ρ : Env) : gV i d ρ = some (ρ.set i (.val d)) := (rfl)
@[simp] theorem gT_ap (g : GXs) (ds : List D) (ρ : Env) : gT g (.tup ds) ρ = g ds ρ := (rfl)
@[simp] theorem gsN_ap (ρ : Env) : gsN [] ρ = some ρ := (rfl)
@[simp] theorem gsC_ap (g : GX) (gs : GXs) (d : D) (r : List D) (ρ : Env) : gsC g gs (d :: r) ρ = (g d ρ).bind fun ρ1 => gs r ρ1 := (rfl)
@[simp] theorem iOf_ap (f : EX) (ρ : Env) (n : Int) : iOf f ρ n = M.bind (f ρ) (fun d => M.opt (dItems d)) n := (rfl)
@[simp] theorem iRng1D_ap (f : EXs) (ρ : Env) (n : Int) : iRng1D f ρ n = M.bind (f ρ) (fun ds => M.opt (dRng1 ds)) n := (rfl)
@[simp] theorem iRng2D_ap (f : EXs) (ρ : Env) (n : Int) : iRng2D f ρ n = M.bind (f ρ) (fun ds => M.opt (dRng2 ds)) n := (rfl)
@[simp] theorem dItems_tup (ds : List D) : dItems (.tup ds) = some ds := (rfl)
@[simp] theorem dItems_lst (ds : List D) : dItems (.lst ds) = some ds := (rfl)
def calmR {α : Type} (r : Option (Except Xc α × Int)) : Option (Except Xc α × Int) := match r with
  | some (.ok x, n1) => some (.ok x, n1)
  | _ => none
@[simp] theorem calmR_ok {α : Type} (x : α) (n : Int) : calmR (some (Except.ok x, n)) = some (.ok x, n) := (rfl)
@[simp] theorem calm_ap {α : Type} (a : M α) (n : Int) : M.calm a n = calmR (a n) := (rfl)
@[simp] theorem eComp_ap (vs : List Nat) (g : GX) (it : IX) (t : TX) (f : EX) (ρ : Env) (n : Int) : eComp vs g it t f ρ n = M.bind (it ρ) (fun ds => M.bind (M.calm (compD (compB vs g t f ρ) ds)) fun ys => M.opt (mkLst ys)) n := (rfl)
@[simp] theorem ownLst_0 (ds : List D) (r : Env) : ownLst 0 (.own (.lst ds) :: r) = some () := (rfl)
@[simp] theorem ownLst_s (i : Nat) (s : Sl) (r : Env) : ownLst (i + 1) (s :: r) = ownLst i r := (rfl)
@[simp] theorem sApp_ap (i : Nat) (f : EX) (ρ : Env) (n : Int) : sApp i f ρ n = M.bind (M.opt (ownLst i ρ)) (fun _ => sUp i uApp f ρ) n := (rfl)
@[simp] theorem compB_ap (vs : List Nat) (g : GX) (t : TX) (f : EX) (ρ : Env) (d : D) (n : Int) : compB vs g t f ρ d n = M.bind (M.opt (g d (hide (wipeD ρ vs)))) (fun ρ1 => M.bind (t ρ1) fun b => selB b (M.bind (f ρ1) fun y => M.pure (some y)) (M.pure none)) n := (rfl)
@[simp] theorem hide_nil : hide [] = [] := (rfl)
@[simp] theorem hide_no (r : Env) : hide (.no :: r) = .no :: hide r := (rfl)
@[simp] theorem hide_val (d : D) (r : Env) : hide (.val d :: r) = .val d :: hide r := (rfl)
@[simp] theorem hide_own (d : D) (r : Env) : hide (.own d :: r) = .no :: hide r := (rfl)
@[simp] theorem wipeD_nil (ρ : Env) : wipeD ρ [] = ρ := (rfl)
@[simp] theorem wipeD_cons (ρ : Env) (v : Nat) (vs : List Nat) : wipeD ρ (v :: vs) = (wipeD ρ vs).set v .no := (rfl)
@[simp] theorem runD_ap (N P : Nat) (g : SX) (ds : List D) (n : Int) : runD N P g ds n = M.bind (g (ds.map Sl.val ++ List.replicate (N - P) Sl.no)) runK n := (rfl)
@[simp] theorem runI_ap (N P c : Nat) (g : SX) (ds : List D) (n : Int) : runI N P c g ds n = M.bind (g (Sl.own (.obj c [] []) :: ds.map Sl.val ++ List.replicate (N - P) Sl.no)) runIK n := (rfl)
@[simp] theorem forD_nil (g : GX) (b : SX) (ρ : Env) (n : Int) : forD g b [] ρ n = some (.ok (.nx ρ), n) := (rfl)
theorem forD_cons (g : GX) (b : SX) (d : D) (ds : List D) (ρ : Env) (n : Int) : forD g b (d :: ds) ρ n = M.bind (M.opt (g d ρ)) (fun ρ1 => M.bind (b ρ1) (turnK (forD g b ds))) n := (rfl)
theorem whileD_s (t : TX) (b : SX) (m : Nat) (ρ : Env) (n : Int) : whileD t b (m + 1) ρ n = M.bind (t ρ) (fun c => selB c (M.bind (b ρ) (turnK (whileD t b m))) (M.pure (.nx ρ))) n := by
  show M.bind (t ρ) _ n = M.bind (t ρ) _ n
  congr 1
  funext c
  cases c
  · rfl
  · show M.bind (b ρ) _ = M.bind (b ρ) _
    congr 1
theorem compD_nil (b : D → M (Option D)) (n : Int) : compD b [] n = some (.ok [], n) := (rfl)
theorem compD_cons (b : D → M (Option D)) (d : D) (ds : List D) (n : Int) : compD b (d :: ds) n = M.bind (b d) (fun y => M.bind (compD b ds) fun ys => M.pure (consO y ys)) n := (rfl)
theorem small62_of {i : Int} (h : -1000000 ≤ i) (h2 : i ≤ 1000000) : small62 i = true := by
  unfold small62
  simp only [Bool.and_eq_true, decide_eq_true_eq]
  exact ⟨by omega, by omega⟩
theorem small64_of {i : Int} (h : -1000000 ≤ i) (h2 : i ≤ 1000000) : small64 i = true := by
  unfold small64
  simp only [Bool.and_eq_true, decide_eq_true_eq]
  exact ⟨by omega, by omega⟩
theorem dRng1_ok {j : Int} (h : -1000000 ≤ j) (h2 : j ≤ 1000000) : dRng1 [.int j] = some (rngD 0 j) := if_pos (small62_of h h2)
theorem dRng2_ok {i j : Int} (h : -1000000 ≤ i) (h2 : i ≤ 1000000) (h3 : -1000000 ≤ j) (h4 : j ≤ 1000000) : dRng2 [.int i, .int j] = some (rngD i j) := if_pos (by rw [small62_of h h2, small62_of h3 h4]; rfl)
theorem szl : sizeLine = 16777216 := sizeLine_eq
@[simp] theorem mkTup_of {ds : List D} (h : ds.length ≤ 16777216) : mkTup ds = some (.tup ds) := by
  unfold mkTup gz; rw [sizeLine_eq, decide_eq_true h]; rfl
@[simp] theorem mkLst_of {ds : List D} (h : ds.length ≤ 16777216) : mkLst ds = some (.lst ds) := by
  unfold mkLst gz; rw [sizeLine_eq, decide_eq_true h]; rfl
/-! ### comprehensions, loops -/
/-- a comprehension whose elements don't draw -/
theorem compD_map (b : D → M (Option D)) (f : D → Option D) (n : Int) : ∀ ds : List D, (∀ d ∈ ds, b d n = some (.ok (f d), n)) → compD b ds n = some (.ok (ds.filterMap f), n)
  | [], _ => rfl
  | d :: ds, h => by
    have h1 := h d List.mem_cons_self
    have h2 := compD_map b f n ds fun x hx => h x (List.mem_cons_of_mem _ hx)
    rw [compD_cons]
    simp only [bind_ap, h1, h2, pure_ap, List.filterMap_cons, bindR_ok]
    cases f d <;> rfl
/-- a loop that searches: it leaves with a value at the first hit -/
theorem forD_find (i : Nat) (b : SX) (p : D → Bool) (r : D → D) (ρ : Env) (n : Int) : ∀ (ds : List D) (s0 : Sl), (∀ d ∈ ds, b (ρ.set i (.val d)) n = some (.ok (if p d then .ret (r d) else .nx (ρ.set i (.val d))), n)) →
    ∃ s, forD (gV i) b ds (ρ.set i s0) n = some (.ok (findK (ds.find? p) r (ρ.set i s)), n)
  | [], s0, _ => ⟨s0, rfl⟩
  | d :: ds, s0, h => by
    have h1 := h d List.mem_cons_self
    obtain ⟨s, h2⟩ := forD_find i b p r ρ n ds (.val d) fun x hx => h x (List.mem_cons_of_mem _ hx)
    rw [forD_cons]
    simp only [bind_ap, gV_ap, opt_some, List.set_set, h1, bindR_ok]
    cases hp : p d with
    | true => exact ⟨s0, by simp [hp]⟩
    | false => exact ⟨s, by simp [hp, h2]⟩
/-- a loop that checks: it goes through -/
theorem forD_all (i : Nat) (b : SX) (ρ : Env) (n : Int) (ds : List D) (s0 : Sl) (h : ∀ d ∈ ds, b (ρ.set i (.val d)) n = some (.ok (.nx (ρ.set i (.val d))), n)) :
    ∃ s, forD (gV i) b ds (ρ.set i s0) n = some (.ok (.nx (ρ.set i s)), n) := by
  obtain ⟨s, e⟩ := forD_find i b (fun _ => false) (fun d => d) ρ n ds s0 (fun d hd => by rw [h d hd]; rfl)
  refine ⟨s, ?_⟩
  rw [e]
  have : ds.find? (fun _ => false) = none := by simp
  rw [this, findK_none]
theorem mem_rngD {d : D} {lo hi : Int} (h : d ∈ rngD lo hi) : ∃ i : Int, d = .int i ∧ lo ≤ i ∧ i < hi := by
  unfold rngD at h
  obtain ⟨k, hk, e⟩ := List.mem_map.mp h
  rw [List.mem_range] at hk
  exact ⟨lo + k, e.symm, by omega, by omega⟩

/-! ### data that is compared -/
class PyE (α : Type) where
  enc : α → D
  py : α → PyData
  to : ∀ x, toPy (enc x) = some (py x)
  lay : ∀ x, (py x).canLay0 = true
  dep : ∀ x, (py x).depth ≤ 8
  eqv : ∀ x y, PyData.eqv (py x) (py y) = true ↔ x = y
theorem PyE.toAll {α : Type} [PyE α] : ∀ xs : List α, toPys (xs.map PyE.enc) = some (xs.map PyE.py)
  | [] => by simp [toPys]
  | x :: xs => by
    rw [List.map_cons, List.map_cons]
    unfold toPys
    rw [PyE.to, PyE.toAll xs]
theorem PyE.layAll {α : Type} [PyE α] : ∀ xs : List α, PyData.canLayAll0 (xs.map PyE.py) = true
  | [] => by simp [PyData.canLayAll0]
  | x :: xs => by
    rw [List.map_cons]
    unfold PyData.canLayAll0
    rw [PyE.lay, PyE.layAll xs]; rfl
theorem PyE.depAll {α : Type} [PyE α] : ∀ xs : List α, PyData.depthAll (xs.map PyE.py) ≤ 8
  | [] => by simp [PyData.depthAll]
  | x :: xs => by
    rw [List.map_cons]
    unfold PyData.depthAll
    have := PyE.dep x
    have := PyE.depAll xs
    omega
theorem PyE.eqvAll {α : Type} [PyE α] : ∀ xs ys : List α, PyData.eqvAll (xs.map PyE.py) (ys.map PyE.py) = true ↔ xs = ys
  | [], [] => by simp [PyData.eqvAll]
  | [], y :: ys => by simp [PyData.eqvAll]
  | x :: xs, [] => by simp [PyData.eqvAll]
  | x :: xs, y :: ys => by
    rw [List.map_cons, List.map_cons]
    unfold PyData.eqvAll
    rw [Bool.and_eq_true, PyE.eqv, PyE.eqvAll xs ys]
    simp
theorem PyE.shaped {α : Type} [PyE α] (x : α) : SeqAt.shaped (PyE.py x) = true := by
  unfold SeqAt.shaped
  have := PyE.dep x
  rw [PyE.lay]; simp; omega
theorem bool_dec {b : Bool} {p : Prop} [Decidable p] (h : b = true ↔ p) : b = decide p := by
  by_cases q : p
  · rw [decide_eq_true q]; exact h.mpr q
  · rw [decide_eq_false q]
    cases b with
    | true => exact absurd (h.mp rfl) q
    | false => rfl
theorem dEqB_enc {α : Type} [PyE α] [DecidableEq α] (x y : α) : dEqB (PyE.enc x) (PyE.enc y) = some (decide (x = y)) := by
  unfold dEqB
  simp only [PyE.to, PyE.shaped, Bool.and_self, if_true]
  rw [bool_dec (PyE.eqv x y)]
theorem dEq_enc {α : Type} [PyE α] [DecidableEq α] (x y : α) : dEq (PyE.enc x) (PyE.enc y) = some (.bl (decide (x = y))) := by
  unfold dEq; rw [dEqB_enc]
theorem dNe_enc {α : Type} [PyE α] [DecidableEq α] (x y : α) : dNe (PyE.enc x) (PyE.enc y) = some (.bl (!decide (x = y))) := by
  unfold dNe; rw [dEqB_enc]
/-- tuples and lists of such -/
def encT {α : Type} [PyE α] (xs : List α) : D := .tup (xs.map PyE.enc)
def encL {α : Type} [PyE α] (xs : List α) : D := .lst (xs.map PyE.enc)
theorem dEqB_T {α : Type} [PyE α] [DecidableEq α] (x y : List α) : dEqB (encT x) (encT y) = some (decide (x = y)) := by
  unfold dEqB encT
  have s : ∀ x : List α, SeqAt.shaped (.tuple (x.map PyE.py)) = true := fun x => by
    unfold SeqAt.shaped PyData.canLay0 PyData.depth
    have := PyE.depAll x
    rw [PyE.layAll]; simp; omega
  unfold toPy
  rw [PyE.toAll, PyE.toAll]
  simp only [s, Bool.and_self, if_true]
  unfold PyData.eqv
  rw [bool_dec (PyE.eqvAll x y)]
theorem dEqB_L {α : Type} [PyE α] [DecidableEq α] (x y : List α) : dEqB (encL x) (encL y) = some (decide (x = y)) := by
  unfold dEqB encL
  have s : ∀ x : List α, SeqAt.shaped (.list (x.map PyE.py)) = true := fun x => by
    unfold SeqAt.shaped PyData.canLay0 PyData.depth
    have := PyE.depAll x
    rw [PyE.layAll]; simp; omega
  unfold toPy
  rw [PyE.toAll, PyE.toAll]
  simp only [s, Bool.and_self, if_true]
  unfold PyData.eqv
  rw [bool_dec (PyE.eqvAll x y)]
theorem dEq_T {α : Type} [PyE α] [DecidableEq α] (x y : List α) : dEq (encT x) (encT y) = some (.bl (decide (x = y))) := by unfold dEq; rw [dEqB_T]
theorem dNe_T {α : Type} [PyE α] [DecidableEq α] (x y : List α) : dNe (encT x) (encT y) = some (.bl (!decide (x = y))) := by unfold dNe; rw [dEqB_T]
theorem dEq_L {α : Type} [PyE α] [DecidableEq α] (x y : List α) : dEq (encL x) (encL y) = some (.bl (decide (x = y))) := by unfold dEq; rw [dEqB_L]
theorem dNe_L {α : Type} [PyE α] [DecidableEq α] (x y : List α) : dNe (encL x) (encL y) = some (.bl (!decide (x = y))) := by unfold dNe; rw [dEqB_L]
instance : PyE Int where
  enc := D.int
  py := PyData.int
  to := fun x => by unfold toPy; rfl
  lay := fun x => by unfold PyData.canLay0; rfl
  dep := fun x => by unfold PyData.depth; omega
  eqv := fun x y => by unfold PyData.eqv; simp
@[simp] theorem dEq_int (i j : Int) : dEq (.int i) (.int j) = some (.bl (decide (i = j))) := dEq_enc (α := Int) i j
@[simp] theorem dNe_int (i j : Int) : dNe (.int i) (.int j) = some (.bl (!decide (i = j))) := dNe_enc (α := Int) i j
@[simp] theorem dLt_int (i j : Int) : dLt (.int i) (.int j) = some (.bl (decide (i < j))) := (rfl)
@[simp] theorem dLe_int (i j : Int) : dLe (.int i) (.int j) = some (.bl (decide (i ≤ j))) := (rfl)
@[simp] theorem dGt_int (i j : Int) : dGt (.int i) (.int j) = some (.bl (decide (j < i))) := (rfl)
@[simp] theorem dGe_int (i j : Int) : dGe (.int i) (.int j) = some (.bl (decide (j ≤ i))) := (rfl)
@[simp] theorem dAdd_int (i j : Int) : dAdd (.int i) (.int j) = some (.int (i + j)) := (rfl)
@[simp] theorem dSub_int (i j : Int) : dSub (.int i) (.int j) = some (.int (i - j)) := (rfl)
@[simp] theorem dNeg_int (i : Int) : dNeg (.int i) = some (.int (-i)) := (rfl)
theorem dMul_int {i j : Int} (h : small64 i = true ∨ small64 j = true) : dMul (.int i) (.int j) = some (.int (i * j)) := by
  exact if_pos (by rw [Bool.or_eq_true]; exact h)
theorem dMod_int {i j : Int} (h : 0 < j) : dMod (.int i) (.int j) = some (.int (i % j)) := by
  exact if_pos (decide_eq_true h)
theorem dDiv_int {i j : Int} (h : 0 < j) (h2 : j < 1073741824) : dDiv (.int i) (.int j) = some (.int (i / j)) := by
  exact if_pos (by simp only [Bool.and_eq_true, decide_eq_true_eq]; exact ⟨h, h2⟩)
@[simp] theorem dLen_tup (xs : List D) : dLen [.tup xs] = some (.int xs.length) := (rfl)
@[simp] theorem dLen_lst (xs : List D) : dLen [.lst xs] = some (.int xs.length) := (rfl)
@[simp] theorem dLen_T {α : Type} [PyE α] (xs : List α) : dLen [encT xs] = some (.int xs.length) := by simp [encT]
theorem dAdd_T {α : Type} [PyE α] {xs ys : List α} (h : xs.length + ys.length ≤ 16777216) : dAdd (encT xs) (encT ys) = some (encT (xs ++ ys)) := by
  unfold dAdd encT
  simp only [← List.map_append]
  rw [mkTup_of (by simpa using h)]
theorem rep_map {α β : Type} (f : α → β) (xs : List α) (k : Nat) : (List.replicate k (xs.map f)).flatten = ((List.replicate k xs).flatten).map f := by
  induction k with
  | zero => rfl
  | succ k ih => rw [List.replicate_succ, List.replicate_succ, List.flatten_cons, List.flatten_cons, ih, List.map_append]
/-- xs, k times -/
def pw {α : Type} (xs : List α) (k : Nat) : List α := (List.replicate k xs).flatten
theorem pw_zero {α : Type} (xs : List α) : pw xs 0 = [] := rfl
theorem pw_succ {α : Type} (xs : List α) (k : Nat) : pw xs (k + 1) = xs ++ pw xs k := by unfold pw; rw [List.replicate_succ, List.flatten_cons]
theorem pw_length {α : Type} (xs : List α) : ∀ k : Nat, (pw xs k).length = k * xs.length
  | 0 => by simp [pw_zero]
  | k + 1 => by rw [pw_succ, List.length_append, pw_length xs k, Nat.succ_mul]; omega
theorem dMul_T {α : Type} [PyE α] {xs : List α} {k : Nat} (h : k ≤ 1000) (h2 : xs.length ≤ 1000) : dMul (encT xs) (.int k) = some (encT (pw xs k)) := by
  unfold dMul encT pw
  have a : ((xs.length : Nat) : Int) * (k : Int) ≤ 1000000 := by
    have : xs.length * k ≤ 1000 * 1000 := Nat.mul_le_mul h2 h
    have : ((xs.length * k : Nat) : Int) ≤ 1000000 := by omega
    rw [Int.natCast_mul] at this; exact this
  refine (if_pos (by simp only [List.length_map, Bool.and_eq_true, decide_eq_true_eq]; exact ⟨⟨by omega, by omega⟩, a⟩)).trans ?_
  rw [Int.toNat_natCast, rep_map]
theorem cut_map {α : Type} [PyE α] (xs : List α) (lo hi : Option Int) : dCut (encT xs) lo hi = some (encT ((xs.drop (HT.sIx xs.length 0 lo)).take (HT.sIx xs.length xs.length hi - HT.sIx xs.length 0 lo))) := by
  unfold dCut encT cutD
  simp only [List.length_map, List.map_take, List.map_drop]
theorem sIx_neg1 (n d : Nat) : HT.sIx n d (some (-1)) = n - 1 := by
  unfold HT.sIx
  simp
  omega
@[simp] theorem cut_from {α : Type} [PyE α] (xs : List α) (k : Nat) : dCut (encT xs) (some (k : Int)) none = some (encT (xs.drop k)) := by
  rw [cut_map, HT.sIx_nat, HT.sIx_none]
  congr 2
  by_cases h : k ≤ xs.length
  · rw [Nat.min_eq_left h, List.take_of_length_le (by simp)]
  · rw [Nat.min_eq_right (by omega), List.drop_eq_nil_of_le (by omega), List.drop_eq_nil_of_le (by omega)]; simp
@[simp] theorem cut_to {α : Type} [PyE α] (xs : List α) (k : Nat) : dCut (encT xs) none (some (k : Int)) = some (encT (xs.take k)) := by
  rw [cut_map, HT.sIx_nat, HT.sIx_none]
  congr 2
  simp only [List.drop_zero, Nat.sub_zero]
  by_cases h : k ≤ xs.length
  · rw [Nat.min_eq_left h]
  · rw [Nat.min_eq_right (by omega), List.take_of_length_le (by omega), List.take_of_length_le (by omega)]
@[simp] theorem cut_last {α : Type} [PyE α] (xs : List α) : dCut (encT xs) (some (-1)) none = some (encT (xs.drop (xs.length - 1))) := by
  rw [cut_map, sIx_neg1, HT.sIx_none]
  congr 2
  rw [List.take_of_length_le (by simp)]
@[simp] theorem cut_init {α : Type} [PyE α] (xs : List α) : dCut (encT xs) none (some (-1)) = some (encT xs.dropLast) := by
  rw [cut_map, sIx_neg1, HT.sIx_none]
  congr 2
  rw [List.drop_zero, Nat.sub_zero, List.dropLast_eq_take]
theorem ix_last {α : Type} [PyE α] {xs : List α} {x : α} (h : xs.getLast? = some x) : dIx (encT xs) (.int (-1)) = some (PyE.enc x) := by
  unfold dIx encT
  rw [List.getLast?_eq_some_iff] at h
  obtain ⟨ys, rfl⟩ := h
  rw [List.map_append]
  exact atI_last _ _
theorem ix_nat {α : Type} [PyE α] {xs : List α} {x : α} {j : Nat} (h : xs[j]? = some x) : dIx (encT xs) (.int (j : Int)) = some (PyE.enc x) := by
  unfold dIx encT
  exact atI_nat (by rw [List.getElem?_map, h]; rfl)
theorem dNe_nil {α : Type} [PyE α] [DecidableEq α] (xs : List α) : dNe (encT xs) (.tup []) = some (.bl (!decide (xs = []))) := dNe_T xs []
theorem dEq_nil {α : Type} [PyE α] [DecidableEq α] (xs : List α) : dEq (encT xs) (.tup []) = some (.bl (decide (xs = []))) := dEq_T xs []
theorem ix_lastc {α : Type} [PyE α] (xs : List α) (x : α) : dIx (encT (xs ++ [x])) (.int (-1)) = some (PyE.enc x) := ix_last (by simp)
theorem cut_lastc {α : Type} [PyE α] (xs : List α) (x : α) : dCut (encT (xs ++ [x])) (some (-1)) none = some (encT [x]) := by
  rw [cut_last]
  congr 2
  simp
theorem cut_initc {α : Type} [PyE α] (xs : List α) (x : α) : dCut (encT (xs ++ [x])) none (some (-1)) = some (encT xs) := by
  rw [cut_init, List.dropLast_concat]
/-- a loop by what holds between two turns -/
theorem forD_inv (g : GX) (b : SX) (I : Env → Int → Prop) : ∀ (ds : List D), (∀ d ∈ ds, ∀ ρ n, I ρ n → ∃ ρ1 ρ2 n2, g d ρ = some ρ1 ∧ b ρ1 n = some (.ok (.nx ρ2), n2) ∧ I ρ2 n2) → ∀ ρ n, I ρ n → ∃ ρ' n', forD g b ds ρ n = some (.ok (.nx ρ'), n') ∧ I ρ' n'
  | [], _, ρ, n, h => ⟨ρ, n, rfl, h⟩
  | d :: ds, hb, ρ, n, h => by
    obtain ⟨ρ1, ρ2, n2, h1, h2, h3⟩ := hb d List.mem_cons_self ρ n h
    obtain ⟨ρ', n', h4, h5⟩ := forD_inv g b I ds (fun x hx => hb x (List.mem_cons_of_mem _ hx)) ρ2 n2 h3
    exact ⟨ρ', n', by rw [forD_cons]; simp [h1, h2, h4], h5⟩
/-- a comprehension whose elements may draw -/
theorem compD_ex {α : Type} [PyE α] (b : D → M (Option D)) : ∀ (ds : List D) (n : Int), (∀ d ∈ ds, ∀ n, ∃ x : α, ∃ n', b d n = some (.ok (some (PyE.enc x)), n')) → ∃ xs : List α, ∃ n', compD b ds n = some (.ok (xs.map PyE.enc), n') ∧ xs.length = ds.length
  | [], n, _ => ⟨[], n, rfl, rfl⟩
  | d :: ds, n, h => by
    obtain ⟨x, n1, h1⟩ := h d List.mem_cons_self n
    obtain ⟨xs, n2, h2, h3⟩ := compD_ex b ds n1 fun y hy => h y (List.mem_cons_of_mem _ hy)
    exact ⟨x :: xs, n2, by rw [compD_cons]; simp [h1, h2], by simp [h3]⟩
theorem rngD_length (lo hi : Int) : (rngD lo hi).length = (hi - lo).toNat := by simp [rngD]
theorem dEqB_bl (a b : Bool) : dEqB (.bl a) (.bl b) = some (a == b) := by
  unfold dEqB toPy
  have s : ∀ a : Bool, SeqAt.shaped (.bool a) = true := fun a => by cases a <;> decide +kernel
  simp only [s, Bool.and_self, if_true]
  unfold PyData.eqv
  rfl
@[simp] theorem dNe_bl (a b : Bool) : dNe (.bl a) (.bl b) = some (.bl (!(a == b))) := by unfold dNe; rw [dEqB_bl]
@[simp] theorem dEq_bl (a b : Bool) : dEq (.bl a) (.bl b) = some (.bl (a == b)) := by unfold dEq; rw [dEqB_bl]
@[simp] theorem dNe_non : dNe .non .non = some (.bl false) := by
  have : dEqB .non .non = some true := by unfold dEqB toPy; decide +kernel
  unfold dNe; rw [this]; rfl
end DL
end

section
set_option Elab.async false
set_option linter.all false
set_option autoImplicit false
set_option maxRecDepth 100000
/-! evaluating what DL17 .. DL24 added -/
namespace DL
open PySem L2
@[simp] theorem eOwn2_ap (c : Nat) (fx : FX) (fa fb : EX) (ρ : Env) (n : Int) : eOwn2 c fx fa fb ρ n = M.bind (fa ρ) (fun x => M.bind (fb ρ) fun y => if isC c x && isC c y then fx [x, y] else M.opt none) n := (rfl)
@[simp] theorem e2M_ap (op : D → D → M D) (fa fb : EX) (ρ : Env) (n : Int) : e2M op fa fb ρ n = M.bind (fa ρ) (fun x => M.bind (fb ρ) fun y => M.calm (op x y)) n := (rfl)
@[simp] theorem e1M_ap (op : D → M D) (fa : EX) (ρ : Env) (n : Int) : e1M op fa ρ n = M.bind (fa ρ) (fun x => M.calm (op x)) n := (rfl)
@[simp] theorem mOwn_ap (c : Nat) (fx : FX) (x y : D) : mOwn c fx x y = if isC c x && isC c y then fx [x, y] else M.opt none := (rfl)
@[simp] theorem mOwn1_ap (c : Nat) (fx : FX) (x : D) : mOwn1 c fx x = if isC c x then fx [x] else M.opt none := (rfl)
def optK (g : Bool → Bool) (d : D) : Option D := match dBool d with | some t => some (.bl (g t)) | none => none
@[simp] theorem optK_bl (g : Bool → Bool) (b : Bool) : optK g (.bl b) = some (.bl (g b)) := (rfl)
theorem optK_eq (g : Bool → Bool) (d : D) : (dBool d).map (fun t => D.bl (g t)) = optK g d := by unfold optK; cases dBool d <;> rfl
@[simp] theorem mOwnIn_ap (c : Nat) (fx : FX) (g : Bool → Bool) (x y : D) : mOwnIn c fx g x y = if isC c y then M.bind (fx [y, x]) (fun d => M.opt (optK g d)) else M.opt none := by
  unfold mOwnIn
  simp only [optK_eq]
@[simp] theorem tOwn_ap (c : Nat) (fx : FX) (fa : EX) (ρ : Env) (n : Int) : tOwn c fx fa ρ n = M.bind (e1M (mOwn1 c fx) fa ρ) (fun d => M.opt (dBool d)) n := (rfl)
@[simp] theorem eNotT_ap (t : TX) (ρ : Env) (n : Int) : eNotT t ρ n = M.bind (t ρ) (fun b => M.pure (.bl (!b))) n := (rfl)
@[simp] theorem eBoolO_ap (t : TX) (ρ : Env) (n : Int) : eBoolO t ρ n = M.bind (t ρ) (fun b => M.pure (.bl b)) n := (rfl)
@[simp] theorem iZipD_ap (f : EXs) (ρ : Env) (n : Int) : iZipD f ρ n = M.bind (f ρ) (fun ds => M.opt (dZip ds)) n := (rfl)
@[simp] theorem sOwnN_ap (i : Nat) (f : EXs) (ρ : Env) (n : Int) : sOwnN i f ρ n = M.bind (f ρ) (fun ds => M.pure (.nx (ρ.set i (.own (.lst ds))))) n := (rfl)
def cutK (l h : Option Int) (x : D) : Option (List D) := match x with | .lst xs => some (cutD xs l h) | _ => none
@[simp] theorem cutK_lst (l h : Option Int) (xs : List D) : cutK l h (.lst xs) = some (cutD xs l h) := (rfl)
@[simp] theorem nCut_ap (f : EX) (lo hi : EO) (ρ : Env) (n : Int) : nCut f lo hi ρ n = M.bind (f ρ) (fun x => M.bind (lo ρ) fun l => M.bind (hi ρ) fun h => M.opt (cutK l h x)) n := (rfl)
@[simp] theorem nLst_ap (f : EXs) (ρ : Env) (n : Int) : nLst f ρ n = M.bind (f ρ) (fun ds => M.opt (if gz ds then some ds else none)) n := (rfl)
@[simp] theorem sFrz_ap (i : Nat) (ρ : Env) (n : Int) : sFrz i ρ n = M.bind (M.opt (frzE i ρ)) (fun ρ' => M.pure (.nx ρ')) n := (rfl)
theorem gz_of {ds : List D} (h : ds.length ≤ 16777216) : (if gz ds then some ds else none) = some ds := by
  have : mkLst ds = some (.lst ds) := mkLst_of h
  unfold mkLst at this
  split at this
  · rename_i h; rw [if_pos h]
  · cases this
end DL
end

section
set_option Elab.async false
set_option linter.all false
set_option autoImplicit false
set_option maxRecDepth 100000
namespace K36
/-! ### periods of truth values, with no program in sight -/
def Ev (m : Nat → Bool) (s p : Nat) : Prop := ∀ n, s ≤ n → m (n + p) = m n
section
variable {m : Nat → Bool} {s s' p q a b : Nat}
theorem Ev.mono (h : Ev m s p) (hs : s ≤ s') : Ev m s' p := fun n hn => h n (by omega)
theorem Ev.mul (h : Ev m s p) : ∀ k, Ev m s (k * p)
  | 0 => fun n _ => by simp
  | k + 1 => fun n hn => by
    have e : n + (k + 1) * p = (n + k * p) + p := by rw [Nat.succ_mul]; omega
    rw [e, h _ (by omega), Ev.mul h k n hn]
theorem Ev.mod (ha : Ev m s a) (hb : Ev m s b) : Ev m s (b % a) := fun n hn => by
  have e : n + b % a + (b / a) * a = n + b := by
    have := Nat.mod_add_div b a
    rw [Nat.mul_comm] at this
    omega
  rw [← ha.mul (b / a) (n + b % a) (by omega), e, hb n hn]
theorem Ev.zero : Ev m s 0 := fun n _ => rfl
theorem Ev.gcd : ∀ {a b : Nat}, Ev m s a → Ev m s b → Ev m s (Nat.gcd a b) := by
  intro a b
  induction a, b using Nat.gcd.induction with
  | H0 b => intro _ h; rw [Nat.gcd_zero_left]; exact h
  | H1 a b ha ih => intro h1 h2; rw [Nat.gcd_rec]; exact ih (h1.mod h2) h1
/-- what holds far out, holds as soon as any period does -/
theorem Ev.down (h : Ev m s p) (hp : 1 ≤ p) (hq : Ev m s' q) : Ev m s q := fun n hn => by
  have e : n + s' * p + q = n + q + s' * p := by omega
  have g : s' ≤ n + s' * p := by
    have : s' * 1 ≤ s' * p := Nat.mul_le_mul_left _ hp
    omega
  rw [← h.mul s' (n + q) (by omega), ← e, hq _ g, h.mul s' n hn]
structure Least (m : Nat → Bool) (s q : Nat) : Prop where
  ev : Ev m s q
  pos : 1 ≤ q
  minp : ∀ s0 q0, 1 ≤ q0 → Ev m s0 q0 → q ≤ q0
  mins : ∀ s0, Ev m s0 q → s ≤ s0
theorem Least.uniq (h : Least m s q) (h' : Least m s' p) : s = s' ∧ q = p := by
  have e : q = p := Nat.le_antisymm (h.minp _ _ h'.pos h'.ev) (h'.minp _ _ h.pos h.ev)
  subst e
  exact ⟨Nat.le_antisymm (h.mins _ h'.ev) (h'.mins _ h.ev), rfl⟩
theorem least_of (hp : Ev m s p) (hp1 : 1 ≤ p) (hd : q ∣ p) (hq : Ev m s q) (hq1 : 1 ≤ q) (hm : ∀ d, d ∣ p → 1 ≤ d → Ev m s d → q ≤ d) {t : Nat} (ht : Ev m t q) (ht0 : t = 0 ∨ m (t - 1 + q) ≠ m (t - 1)) : Least m t q where
  ev := ht
  pos := hq1
  minp := fun s0 q0 h0 h => by
    have g1 : Ev m (s + s0) (Nat.gcd q q0) := (hq.mono (by omega)).gcd (h.mono (by omega))
    have g2 : Ev m s (Nat.gcd q q0) := hp.down hp1 g1
    have g3 : 1 ≤ Nat.gcd q q0 := Nat.gcd_pos_of_pos_left _ hq1
    have g4 := hm _ (Nat.dvd_trans (Nat.gcd_dvd_left q q0) hd) g3 g2
    have g5 := Nat.le_of_dvd h0 (Nat.gcd_dvd_right q q0)
    omega
  mins := fun s0 h => by
    rcases ht0 with e | e
    · omega
    · by_cases c : t ≤ s0
      · exact c
      · exact absurd (h (t - 1) (by omega)) e
/-- a check of a stretch is enough -/
theorem ev_check {s0 q0 N : Nat} (hp : Ev m s p) (hp1 : 1 ≤ p) (hs : s0 ≤ N) (hN : s ≤ N) (h : ∀ n, s0 ≤ n → n < N + p → m (n + q0) = m n) : Ev m s0 q0 := fun n hn => by
  by_cases c : n < N + p
  · exact h n hn c
  · -- go down by multiples of p into N .. N + p
    have e : n = N + (n - N) % p + ((n - N) / p) * p := by
      have := Nat.mod_add_div (n - N) p
      rw [Nat.mul_comm] at this
      omega
    have hlt : (n - N) % p < p := Nat.mod_lt _ hp1
    have h1 := hp.mul ((n - N) / p) (N + (n - N) % p) (by omega)
    have h2 := hp.mul ((n - N) / p) (N + (n - N) % p + q0) (by omega)
    have h3 := h (N + (n - N) % p) (by omega) (by omega)
    have e2 : n + q0 = N + (n - N) % p + q0 + (n - N) / p * p := by omega
    rw [e2, h2, h3]
    rw [← h1, ← e]
/-- two that are alike on a stretch are alike -/
theorem eq_check {m' : Nat → Bool} {N : Nat} (h : Ev m s p) (h' : Ev m' s p) (hp : 1 ≤ p) (hN : s + p ≤ N) (e : ∀ n, n < N → m n = m' n) : m = m' := by
  funext n
  by_cases c : n < N
  · exact e n c
  · have z : n = s + (n - s) % p + ((n - s) / p) * p := by
      have := Nat.mod_add_div (n - s) p
      rw [Nat.mul_comm] at this
      omega
    have hlt : (n - s) % p < p := Nat.mod_lt _ hp
    rw [z, h.mul _ _ (by omega), h'.mul _ _ (by omega)]
    exact e _ (by omega)
end
/-- the least number that does -/
theorem least_nat (P : Nat → Bool) : ∀ n, P n = true → ∃ k, k ≤ n ∧ P k = true ∧ ∀ j, j < k → P j = false
  | 0, h => ⟨0, Nat.le_refl _, h, fun j hj => absurd hj (by omega)⟩
  | n + 1, h => by
    by_cases c : ∃ j, j ≤ n ∧ P j = true
    · obtain ⟨j, h1, h2⟩ := c
      have : ∀ i, i ≤ n → P i = true → ∃ k, k ≤ i ∧ P k = true ∧ ∀ j, j < k → P j = false := by
        intro i
        induction i using Nat.strongRecOn with
        | _ i ih =>
          intro hi hpi
          by_cases d : ∃ j, j < i ∧ P j = true
          · obtain ⟨j, a, b⟩ := d
            obtain ⟨k, c1, c2, c3⟩ := ih j a (by omega) b
            exact ⟨k, by omega, c2, c3⟩
          · refine ⟨i, Nat.le_refl _, hpi, fun j hj => ?_⟩
            cases e : P j with
            | false => rfl
            | true => exact absurd ⟨j, hj, e⟩ d
      obtain ⟨k, a, b, c⟩ := this j h1 h2
      exact ⟨k, by omega, b, c⟩
    · refine ⟨n + 1, Nat.le_refl _, h, fun j hj => ?_⟩
      cases e : P j with
      | false => rfl
      | true => exact absurd ⟨j, by omega, e⟩ c
end K36
end

section
set_option Elab.async false
set_option linter.all false
set_option autoImplicit false
set_option maxRecDepth 100000
namespace K36
open DL PySem L2 P_k36_whole_set_identities PyProof.Rows
instance : PyE Nat where
  enc := fun k => .int k
  py := fun k => .int k
  to := fun x => by unfold toPy; rfl
  lay := fun x => by unfold PyData.canLay0; rfl
  dep := fun x => by unfold PyData.depth; omega
  eqv := fun x y => by unfold PyData.eqv; simp; omega
instance : PyE Bool where
  enc := .bl
  py := .bool
  to := fun x => by unfold toPy; rfl
  lay := fun x => by unfold PyData.canLay0; rfl
  dep := fun x => by unfold PyData.depth; omega
  eqv := fun x y => by unfold PyData.eqv; simp
theorem encN (k : Nat) : (PyE.enc k : D) = .int k := rfl
theorem encB (k : Bool) : (PyE.enc k : D) = .bl k := rfl
/-- a comprehension -/
theorem comp_map {α : Type} (h : α → D) (b : D → M (Option D)) (g : α → Option D) (n : Int) : ∀ w : List α, (∀ x ∈ w, b (h x) n = some (.ok (g x), n)) → compD b (w.map h) n = some (.ok (w.filterMap g), n)
  | [], _ => rfl
  | x :: w, k => by
    have h1 := k x List.mem_cons_self
    have h2 := comp_map h b g n w fun y hy => k y (List.mem_cons_of_mem _ hy)
    rw [List.map_cons, compD_cons]
    simp only [bind_ap, h1, h2, bindR_ok, pure_ap, List.filterMap_cons]
    cases g x <;> rfl
theorem comp_all {α : Type} (h : α → D) (b : D → M (Option D)) (g : α → D) (n : Int) (w : List α) (k : ∀ x ∈ w, b (h x) n = some (.ok (some (g x)), n)) : compD b (w.map h) n = some (.ok (w.map g), n) := by
  have := comp_map h b (fun x => some (g x)) n w k
  rw [this, List.filterMap_eq_map']
theorem comp_filter {α : Type} (h : α → D) (b : D → M (Option D)) (p : α → Bool) (n : Int) (w : List α) (k : ∀ x ∈ w, b (h x) n = some (.ok (if p x then some (h x) else none), n)) : compD b (w.map h) n = some (.ok ((w.filter p).map h), n) := by
  rw [comp_map h b (fun x => if p x then some (h x) else none) n w k]
  congr 3
  clear k
  induction w with
  | nil => rfl
  | cons x w ih =>
    rw [List.filterMap_cons, List.filter_cons]
    cases p x <;> simp [ih]
theorem rng_nat (k : Nat) : rngD 0 (k : Int) = (List.range k).map fun i : Nat => D.int i := by
  unfold rngD
  simp
theorem rng_nat2 (a b : Nat) : rngD (a : Int) (b : Int) = (List.range (b - a)).map fun i : Nat => D.int ((a + i : Nat) : Int) := by
  unfold rngD
  have : ((b : Int) - (a : Int)).toNat = b - a := by omega
  rw [this]
  apply List.map_congr_left
  intro i _
  congr 1
theorem rng1 (k : Nat) (h : k ≤ 1000000) : dRng1 [.int (k : Int)] = some ((List.range k).map fun i : Nat => D.int i) := by
  rw [dRng1_ok (by omega) (by omega), rng_nat]
/-! ### lists of truth values -/
theorem cutL {α : Type} [PyE α] (xs : List α) (lo hi : Option Int) : dCut (encL xs) lo hi = some (encL ((xs.drop (HT.sIx xs.length 0 lo)).take (HT.sIx xs.length xs.length hi - HT.sIx xs.length 0 lo))) := by
  unfold dCut encL DL.cutD
  simp only [List.length_map, List.map_take, List.map_drop]
theorem cutL_from {α : Type} [PyE α] (xs : List α) (k : Nat) : dCut (encL xs) (some (k : Int)) none = some (encL (xs.drop k)) := by
  rw [cutL, HT.sIx_nat, HT.sIx_none]
  congr 2
  by_cases h : k ≤ xs.length
  · rw [Nat.min_eq_left h, List.take_of_length_le (by simp)]
  · rw [Nat.min_eq_right (by omega), List.drop_eq_nil_of_le (by omega), List.drop_eq_nil_of_le (by omega)]; simp
theorem cutL_to {α : Type} [PyE α] (xs : List α) (k : Nat) : dCut (encL xs) none (some (k : Int)) = some (encL (xs.take k)) := by
  rw [cutL, HT.sIx_nat, HT.sIx_none]
  congr 2
  simp only [List.drop_zero, Nat.sub_zero]
  by_cases h : k ≤ xs.length
  · rw [Nat.min_eq_left h]
  · rw [Nat.min_eq_right (by omega), List.take_of_length_le (by omega), List.take_of_length_le (by omega)]
theorem cutL_mid {α : Type} [PyE α] (xs : List α) (i j : Nat) : dCut (encL xs) (some (i : Int)) (some (j : Int)) = some (encL ((xs.take j).drop i)) := by
  rw [cutL, HT.sIx_nat, HT.sIx_nat]
  congr 2
  rw [List.drop_take]
  apply List.ext_getElem?
  intro t
  rw [List.getElem?_take, List.getElem?_take, List.getElem?_drop, List.getElem?_drop]
  by_cases h : i ≤ xs.length
  · rw [Nat.min_eq_left h]
    by_cases h2 : j ≤ xs.length
    · rw [Nat.min_eq_left h2]
    · rw [Nat.min_eq_right (by omega)]
      by_cases h3 : i + t < xs.length
      · rw [if_pos (by omega), if_pos (by omega)]
      · rw [List.getElem?_eq_none (by omega)]; split <;> split <;> rfl
  · rw [Nat.min_eq_right (Nat.le_of_not_le h), List.getElem?_eq_none (by omega), List.getElem?_eq_none (by omega)]; split <;> split <;> rfl
theorem cutL_last {α : Type} [PyE α] (xs : List α) : dCut (encL xs) (some (-1)) none = some (encL (xs.drop (xs.length - 1))) := by
  rw [cutL, sIx_neg1, HT.sIx_none]
  congr 2
  rw [List.take_of_length_le (by simp)]
theorem cutL_init {α : Type} [PyE α] (xs : List α) : dCut (encL xs) none (some (-1)) = some (encL xs.dropLast) := by
  rw [cutL, sIx_neg1, HT.sIx_none]
  congr 2
  rw [List.drop_zero, Nat.sub_zero, List.dropLast_eq_take]
theorem addL {α : Type} [PyE α] {xs ys : List α} (h : xs.length + ys.length ≤ 16777216) : dAdd (encL xs) (encL ys) = some (encL (xs ++ ys)) := by
  unfold dAdd encL
  simp only [← List.map_append]
  rw [mkLst_of (by simpa using h)]
theorem lenL {α : Type} [PyE α] (xs : List α) : dLen [encL xs] = some (.int xs.length) := by simp [encL]
theorem itemsL {α : Type} [PyE α] (xs : List α) : dItems (encL xs) = some (xs.map PyE.enc) := rfl
theorem itemsT {α : Type} [PyE α] (xs : List α) : dItems (encT xs) = some (xs.map PyE.enc) := rfl
theorem ixL_last {α : Type} [PyE α] (xs : List α) (x : α) (h : xs.getLast? = some x) : dIx (encL xs) (.int (-1)) = some (PyE.enc x) := by
  rw [List.getLast?_eq_some_iff] at h
  obtain ⟨ys, rfl⟩ := h
  unfold dIx encL
  rw [List.map_append]
  exact atI_last _ _
theorem ixL {α : Type} [PyE α] {xs : List α} {x : α} {j : Nat} (h : xs[j]? = some x) : dIxA (encL xs) (.int (j : Int)) = some (PyE.enc x) := by
  show atI (xs.map PyE.enc) (j : Int) = _
  exact atI_nat (by rw [List.getElem?_map, h]; rfl)
theorem ixT' {α : Type} [PyE α] {xs : List α} {x : α} {j : Nat} (h : xs[j]? = some x) : dIxA (encT xs) (.int (j : Int)) = some (PyE.enc x) := by
  show atI (xs.map PyE.enc) (j : Int) = _
  exact atI_nat (by rw [List.getElem?_map, h]; rfl)
/-! ### in -/
theorem flats_int (ns : List Nat) : (ns.map fun k : Nat => D.int (k : Int)).all flatD = true := by
  induction ns with
  | nil => rfl
  | cons a r ih => rw [List.map_cons, List.all_cons, ih]; rfl
theorem any_int (ns : List Nat) (k : Nat) : ((ns.map fun k : Nat => D.int (k : Int)).any fun e => eqF e (.int k)) = decide (k ∈ ns) := by
  induction ns with
  | nil => simp
  | cons a r ih =>
    rw [List.map_cons, List.any_cons, ih]
    have : eqF (.int (a : Int)) (.int (k : Int)) = decide (a = k) := by
      show ((a : Int) == (k : Int)) = _
      by_cases h : a = k
      · subst h; simp
      · have : ¬ ((a : Int) = (k : Int)) := by omega
        simp [h, this]
    rw [this]
    by_cases h : a = k
    · subst h; simp
    · have : k ≠ a := fun e => h e.symm
      simp [h, this]
theorem in_T (ns : List Nat) (k : Nat) : dIn (.int k) (encT ns) = some (.bl (decide (k ∈ ns))) := by
  have h1 := flats_int ns
  have h2 := any_int ns k
  unfold dIn dInB encT
  show (match (if (flatD (.int k) && (ns.map fun k : Nat => D.int (k : Int)).all flatD) = true then some ((ns.map fun k : Nat => D.int (k : Int)).any fun e => eqF e (.int k)) else none) with | some t => some (D.bl t) | none => none) = _
  rw [h1, h2]
  rfl
/-! ### dicts with int keys -/
theorem valD_put {κ : Type} [DecidableEq κ] {k k' : κ} {d : D} : ∀ {ks : List κ} {vs : List D}, ks.length = vs.length → (valD (dkKs ks k) (dkDs ks vs k d) k').isSome = (decide (k' = k) || (valD ks vs k').isSome) := by
  have mapS : ∀ {ks : List κ} {vs : List D}, ks.length = vs.length → (valD ks (List.zipWith (fun x e => if x = k then d else e) ks vs) k').isSome = (valD ks vs k').isSome := by
    intro ks
    induction ks with
    | nil => intro vs _; rfl
    | cons x xs ih =>
      intro vs l
      cases vs with
      | nil => cases l
      | cons v vs =>
        rw [List.zipWith_cons_cons]
        unfold valD
        by_cases h : x = k'
        · rw [if_pos h, if_pos h]; rfl
        · rw [if_neg h, if_neg h]; exact ih (by simpa using l)
  have inS : ∀ {ks : List κ} {vs : List D}, ks.length = vs.length → (ks.any fun x => decide (x = k)) = true → (valD ks vs k).isSome = true := by
    intro ks
    induction ks with
    | nil => intro vs _ h; cases h
    | cons x xs ih =>
      intro vs l h
      cases vs with
      | nil => cases l
      | cons v vs =>
        unfold valD
        by_cases c : x = k
        · rw [if_pos c]; rfl
        · rw [if_neg c]
          refine ih (by simpa using l) ?_
          rw [List.any_cons] at h
          simpa [c] using h
  have appS : ∀ {ks : List κ} {vs : List D}, ks.length = vs.length → (valD (ks ++ [k]) (vs ++ [d]) k').isSome = (decide (k' = k) || (valD ks vs k').isSome) := by
    intro ks
    induction ks with
    | nil =>
      intro vs l
      cases vs with
      | nil =>
        show (valD [k] [d] k').isSome = _
        unfold valD
        by_cases h : k = k'
        · rw [if_pos h]; simp [h, valD]
        · have : k' ≠ k := fun e => h e.symm
          rw [if_neg h]; simp [valD, this]
      | cons _ _ => cases l
    | cons x xs ih =>
      intro vs l
      cases vs with
      | nil => cases l
      | cons v vs =>
        rw [List.cons_append, List.cons_append]
        unfold valD
        by_cases h : x = k'
        · rw [if_pos h, if_pos h]; simp
        · rw [if_neg h, if_neg h]; exact ih (by simpa using l)
  intro ks vs l
  unfold dkKs dkDs
  split
  · rename_i h
    rw [mapS l]
    by_cases c : k' = k
    · subst c; rw [inS l h]; simp
    · simp [c]
  · exact appS l
theorem dcomp_ints (b : D → M (Option (Key × D))) (n : Int) : ∀ (ns : List Nat) (ks : List Key) (vs : List D), (∀ k ∈ ns, b (.int (k : Int)) n = some (.ok (some (.inl (k : Int), .bl true)), n)) → ks.length = vs.length → ks.length + ns.length < 16777216 →
    ∃ ks' vs', dcompD b (ns.map fun k : Nat => D.int (k : Int)) ks vs n = some (.ok (ks', vs'), n) ∧ ∀ k : Nat, (valD ks' vs' (.inl (k : Int) : Key)).isSome = (decide (k ∈ ns) || (valD ks vs (.inl (k : Int))).isSome)
  | [], ks, vs, _, _, _ => ⟨ks, vs, rfl, fun k => by simp⟩
  | a :: r, ks, vs, h, l, z => by
    have h1 := h a List.mem_cons_self
    have l2 : (dkKs ks (.inl (a : Int) : Key)).length = (dkDs ks vs (.inl (a : Int)) (.bl true)).length := put_len l
    have z2 : (dkKs ks (.inl (a : Int) : Key)).length ≤ ks.length + 1 := by unfold dkKs; split <;> simp
    obtain ⟨ks', vs', e, q⟩ := dcomp_ints b n r _ _ (fun k hk => h k (List.mem_cons_of_mem _ hk)) l2 (by rw [List.length_cons] at z; omega)
    refine ⟨ks', vs', ?_, fun k => ?_⟩
    · rw [List.map_cons]
      unfold dcompD
      have hz : ks.length < sizeLine := by rw [sizeLine_eq]; rw [List.length_cons] at z; omega
      show bindR (b (.int a) n) _ = _
      rw [h1, bindR_ok]
      show (if ks.length < sizeLine then dcompD b (r.map fun k : Nat => D.int (k : Int)) (dkKs ks (.inl (a : Int))) (dkDs ks vs (.inl (a : Int)) (.bl true)) else M.opt none) n = _
      rw [if_pos hz]
      exact e
    · have e : decide ((.inl (k : Int) : Key) = .inl (a : Int)) = decide (k = a) := decide_eq_decide.mpr ⟨fun h => by injection h with h; omega, fun h => by rw [h]⟩
      rw [q k, valD_put l, e]
      by_cases c1 : k = a <;> by_cases c2 : k ∈ r <;> simp [c1, c2]
theorem in_dict {ks : List Key} {vs : List D} (k : Nat) : dIn (.int (k : Int)) (.dic ks vs) = some (.bl (valD ks vs (.inl (k : Int) : Key)).isSome) := rfl
@[simp] theorem eDComp_ap (vs : List Nat) (g : GX) (it : IX) (t : TX) (fk fv : EX) (ρ : DL.Env) (n : Int) : eDComp vs g it t fk fv ρ n = M.bind (it ρ) (fun ds => M.bind (M.calm (dcompD (dcompB vs g t fk fv ρ) ds [] [])) fun r => M.pure (.dic r.1 r.2)) n := rfl
end K36
end

section
set_option Elab.async false
set_option linter.all false
set_option autoImplicit false
set_option maxRecDepth 100000
namespace K36
open DL PySem L2 P_k36_whole_set_identities PyProof.Rows
theorem seq_go {g h : SX} {ρ ρ1 : DL.Env} {n n1 : Int} {r : Option (Except Xc Out × Int)} (a : g ρ n = some (.ok (.nx ρ1), n1)) (b : h ρ1 n1 = r) : sSeq g h ρ n = r := by
  rw [sSeq_ap, bind_ap, a]; exact b
def eN (m : Nat → Bool) (s : Nat) : List Nat := (List.range s).filter m
def lN (m : Nat → Bool) (s p : Nat) : List Nat := (List.range p).filter fun r => m (s + r)
def mk (m : Nat → Bool) (s p : Nat) : List Bool := (List.range p).map fun r => m (s + r)
theorem mk_len (m : Nat → Bool) (s p : Nat) : (mk m s p).length = p := by simp [mk]
theorem mk_get (m : Nat → Bool) (s p i : Nat) (h : i < p) : (mk m s p)[i]? = some (m (s + i)) := by simp [mk, h]
theorem mk_take (m : Nat → Bool) (s p q : Nat) (h : q ≤ p) : (mk m s p).take q = mk m s q := by
  unfold mk
  rw [← List.map_take]
  congr 1
  rw [List.take_range]
  congr 1
  omega
theorem is_int (i n : Int) : f_is_number [.int i] n = some (.ok (.bl true), n) := by kernel_rfl
theorem bls_map {α : Type} (g : α → Bool) : ∀ w : List α, dBls (w.map fun x => .bl (g x)) = some (w.map g)
  | [] => rfl
  | x :: w => by rw [List.map_cons]; unfold dBls; rw [bls_map g w]; rfl
theorem all_map {α : Type} (g : α → Bool) (w : List α) : dAll [.lst (w.map fun x => .bl (g x))] = some (.bl (w.all g)) := by
  have h := bls_map g w
  unfold dAll
  simp [h]
theorem any_map {α : Type} (g : α → Bool) (w : List α) : dAny [.lst (w.map fun x => .bl (g x))] = some (.bl (w.any g)) := by
  have h := bls_map g w
  unfold dAny
  simp [h]
theorem zip_int (xs ys : List Nat) : zipD (xs.map fun k : Nat => D.int k) (ys.map fun k : Nat => D.int k) = (xs.zip ys).map fun p : Nat × Nat => D.tup [.int p.1, .int p.2] := by
  unfold zipD
  rw [List.zip_map, List.map_map]
  rfl
theorem zip_lt : ∀ ns : List Nat, ns.Pairwise (· < ·) → ∀ p ∈ ns.zip (ns.drop 1), p.1 < p.2
  | [], _, p, hp => by simp at hp
  | [a], _, p, hp => by simp at hp
  | a :: b :: r, h, p, hp => by
    rw [List.pairwise_cons] at h
    have hp : p ∈ (a, b) :: (b :: r).zip ((b :: r).drop 1) := hp
    rcases List.mem_cons.mp hp with e | e
    · subst e; exact h.1 b List.mem_cons_self
    · exact zip_lt (b :: r) h.2 p e
theorem nums_ok (ns : List Nat) (hi : Nat) (h1 : ∀ k ∈ ns, k < hi) (h2 : ns.Pairwise (· < ·)) (hl : ns.length ≤ 100000) (n : Int) : f__are_numbers [encT ns, .int 0, .int hi] n = some (.ok (.bl true), n) := by
  have ty : dIsi "tuple" (encT ns) = some (.bl true) := by unfold encT; kernel_rfl
  have c1 := comp_all (fun k : Nat => D.int k) (compB [3] (gV 3) tYesD (eAnd (eCall (f_is_number) (eCons (eVar 3) eNil)) (eChain dLeA dLt (eVar 1) (eVar 3) (eVar 2))) [.val (encT ns), .val (.int 0), .val (.int hi), .no, .no]) (fun _ => .bl true) n ns fun k hk => by
    have a1 : dLeA (.int 0) (.int (k : Int)) = some (.bl true) := by
      show some (D.bl (decide ((0 : Int) ≤ k))) = _
      rw [decide_eq_true (by omega)]
    have a2 : ((k : Int) < (hi : Int)) := by have := h1 k hk; omega
    simp [is_int, a1, a2]
  have c2 := comp_all (fun p : Nat × Nat => D.tup [.int p.1, .int p.2]) (compB [3, 4] (gT (gsC (gV 3) (gsC (gV 4) gsN))) tYesD (e2 dLt (eVar 3) (eVar 4)) [.val (encT ns), .val (.int 0), .val (.int hi), .no, .no]) (fun _ => .bl true) n (ns.zip (ns.drop 1)) fun p hp => by
    have a2 : ((p.1 : Int) < (p.2 : Int)) := by have := zip_lt ns h2 p hp; omega
    simp [a2]
  have w1 := all_map (fun _ : Nat => true) ns
  have w2 := all_map (fun _ : Nat × Nat => true) (ns.zip (ns.drop 1))
  have t1 : ns.all (fun _ => true) = true := by simp
  have t2 : (ns.zip (ns.drop 1)).all (fun _ => true) = true := by simp
  rw [t1] at w1
  rw [t2] at w2
  have z1 : (ns.map fun _ : Nat => D.bl true).length ≤ 16777216 := by simp; omega
  have z2 : ((ns.zip (ns.drop 1)).map fun _ : Nat × Nat => D.bl true).length ≤ 16777216 := by simp; omega
  have cut := cut_from ns 1
  have zz : dZip [encT ns, encT (ns.drop 1)] = some ((ns.zip (ns.drop 1)).map fun p : Nat × Nat => D.tup [.int p.1, .int p.2]) := by
    rw [← zip_int]; rfl
  have it : dItems (encT ns) = some (ns.map fun k : Nat => D.int k) := rfl
  have cut' : dCut (encT ns) (some 1) none = some (encT (ns.drop 1)) := cut
  have iz : ∀ (f : EXs) (ρ : DL.Env) (n : Int), iZipD f ρ n = M.bind (f ρ) (fun ds => M.opt (dZip ds)) n := fun _ _ _ => rfl
  simp only [f__are_numbers, g__are_numbers]
  generalize encT ns = E at *
  generalize encT (ns.drop 1) = E1 at *
  generalize (ns.map fun _ : Nat => D.bl true) = A1 at *
  generalize ((ns.zip (ns.drop 1)).map fun _ : Nat × Nat => D.bl true) = A2 at *
  generalize ((ns.zip (ns.drop 1)).map fun p : Nat × Nat => D.tup [.int p.1, .int p.2]) = Z at *
  simp [ty, it, c1, mkLst_of z1, w1, cut', iz, zz, c2, mkLst_of z2, w2]
/-! ### the least period -/
theorem rot (m : Nat → Bool) (s p q : Nat) (hp : Ev m s p) (hq : q ≤ p) : (mk m s p).drop q ++ (mk m s p).take q = (List.range p).map fun r => m (s + r + q) := by
  apply List.ext_getElem?
  intro t
  by_cases h : t < p
  · rw [List.getElem?_map, List.getElem?_range h]
    by_cases h2 : t < p - q
    · rw [List.getElem?_append_left (by rw [List.length_drop, mk_len]; exact h2), List.getElem?_drop, mk_get m s p _ (by omega)]
      show some _ = some _
      congr 2; omega
    · rw [List.getElem?_append_right (by rw [List.length_drop, mk_len]; omega), List.length_drop, mk_len, List.getElem?_take, if_pos (by omega), mk_get m s p _ (by omega)]
      show some (m (s + (t - (p - q)))) = some (m (s + t + q))
      have e : s + t + q = (s + (t - (p - q))) + p := by omega
      rw [e, hp _ (by omega)]
  · rw [List.getElem?_eq_none (by simp [mk_len]; omega), List.getElem?_eq_none (by simp; omega)]
theorem rot_iff (m : Nat → Bool) (s p q : Nat) (hp : Ev m s p) (hp1 : 1 ≤ p) (hq : q ≤ p) : ((mk m s p).drop q ++ (mk m s p).take q = mk m s p) ↔ Ev m s q := by
  rw [rot m s p q hp hq]
  constructor
  · intro h
    refine ev_check hp hp1 (Nat.le_refl _) (Nat.le_refl _) fun n h1 h2 => ?_
    have := congrArg (fun l => l[n - s]?) h
    simp only [List.getElem?_map] at this
    rw [List.getElem?_range (by omega), mk_get m s p _ (by omega)] at this
    have e : s + (n - s) = n := by omega
    simpa [e] using this
  · intro h
    unfold mk
    apply List.map_congr_left
    intro r _
    exact h _ (by omega)
def dP (P : Nat → Bool) (d : D) : Bool := match d with | .int i => P i.toNat | _ => false
theorem dP_nat (P : Nat → Bool) (k : Nat) : dP P (.int (k : Int)) = P k := by
  show P ((k : Int)).toNat = P k
  rw [Int.toNat_natCast]
theorem lp_find (P : Nat → Bool) (p : Nat) (h : ∃ q, 1 ≤ q ∧ q ≤ p ∧ P q = true) : ∃ q, 1 ≤ q ∧ q ≤ p ∧ P q = true ∧ (∀ j, 1 ≤ j → j < q → P j = false) ∧ (rngD 1 ((p + 1 : Nat) : Int)).find? (dP P) = some (.int q) := by
  obtain ⟨q0, a1, a2, a3⟩ := h
  obtain ⟨k, b1, b2, b3⟩ := least_nat (fun k => P (k + 1)) (q0 - 1) (by rw [Nat.sub_add_cancel a1]; exact a3)
  refine ⟨k + 1, by omega, by omega, b2, fun j c1 c2 => ?_, ?_⟩
  · have := b3 (j - 1) (by omega)
    rwa [Nat.sub_add_cancel c1] at this
  · have e := rng_nat2 1 (p + 1)
    rw [show ((1 : Nat) : Int) = 1 from rfl] at e
    rw [e, List.find?_map]
    have : (List.range (p + 1 - 1)).find? (dP P ∘ fun i : Nat => D.int ((1 + i : Nat) : Int)) = some k := by
      rw [List.find?_range_eq_some]
      refine ⟨?_, List.mem_range.mpr (by omega), fun j hj => ?_⟩
      · show dP P (.int ((1 + k : Nat) : Int)) = true
        rw [dP_nat, Nat.add_comm]; exact b2
      · show (!dP P (.int ((1 + j : Nat) : Int))) = true
        rw [dP_nat, Nat.add_comm, b3 j hj]; rfl
    rw [this, Option.map_some, Nat.add_comm]
theorem period_ok (m : Nat → Bool) (s p : Nat) (hp : Ev m s p) (hp1 : 1 ≤ p) (hp2 : p ≤ 100000) : ∃ q, 1 ≤ q ∧ q ∣ p ∧ Ev m s q ∧ (∀ d, d ∣ p → 1 ≤ d → Ev m s d → q ≤ d) ∧ ∀ n, f__least_period [encL (mk m s p)] n = some (.ok (.int q), n) := by
  obtain ⟨q, a1, a2, a3, a4, a5⟩ := lp_find (fun q => decide (p % q = 0) && decide ((mk m s p).drop q ++ (mk m s p).take q = mk m s p)) p ⟨p, hp1, Nat.le_refl _, by
    rw [decide_eq_true (Nat.mod_self p), decide_eq_true ((rot_iff m s p p hp hp1 (Nat.le_refl _)).mpr hp)]; rfl⟩
  rw [Bool.and_eq_true, decide_eq_true_eq, decide_eq_true_eq] at a3
  have d0 : q ∣ p := Nat.dvd_of_mod_eq_zero a3.1
  refine ⟨q, a1, d0, (rot_iff m s p q hp hp1 a2).mp a3.2, fun d h1 h2 h3 => ?_, fun n => ?_⟩
  · by_cases c : q ≤ d
    · exact c
    · have z := a4 d h2 (by omega)
      rw [decide_eq_true (Nat.mod_eq_zero_of_dvd h1), decide_eq_true ((rot_iff m s p d hp hp1 (Nat.le_of_dvd hp1 h1)).mpr h3)] at z
      cases z
  · have ln := lenL (mk m s p)
    rw [mk_len] at ln
    obtain ⟨s2, ef⟩ := forD_find 2 (sIf (tAndD (tB (e2 dEq (e2 dMod (eVar 1) (eVar 2)) (eC (.int 0)))) (tB (e2 dEq (e2 dAdd (eCut (eVar 0) (oSome (eVar 2)) oNone) (eCut (eVar 0) oNone (oSome (eVar 2)))) (eVar 0)))) (sRet (eVar 2)) sNx)
      (dP fun q => decide (p % q = 0) && decide ((mk m s p).drop q ++ (mk m s p).take q = mk m s p)) (fun d => d) [.val (encL (mk m s p)), .val (.int p), .no] n (rngD 1 ((p + 1 : Nat) : Int)) .no fun d hd => by
        obtain ⟨i, rfl, h1, h2⟩ := mem_rngD hd
        obtain ⟨k, rfl⟩ : ∃ k : Nat, i = (k : Int) := ⟨i.toNat, by omega⟩
        have hk : (0 : Int) < (k : Int) := by omega
        have dm := dMod_int (i := (p : Int)) hk
        have cf := cutL_from (mk m s p) k
        have ct := cutL_to (mk m s p) k
        have ad := addL (xs := (mk m s p).drop k) (ys := (mk m s p).take k) (by simp [mk_len]; omega)
        have de := dEq_L ((mk m s p).drop k ++ (mk m s p).take k) (mk m s p)
        have me : decide ((p : Int) % (k : Int) = 0) = decide (p % k = 0) := by
          apply decide_eq_decide.mpr
          omega
        rw [dP_nat]
        generalize decide ((mk m s p).drop k ++ (mk m s p).take k = mk m s p) = B at *
        generalize encL (mk m s p) = E at *
        generalize decide (p % k = 0) = A at *
        cases A <;> cases B <;> simp [dm, me, cf, ct, ad, de]
    rw [a5, findK_some] at ef
    have r := dRng2_ok (i := 1) (j := ((p + 1 : Nat) : Int)) (by omega) (by omega) (by omega) (by omega)
    have ef' : forD (gV 2) (sIf (tAndD (tB (e2 dEq (e2 dMod (eVar 1) (eVar 2)) (eC (.int 0)))) (tB (e2 dEq (e2 dAdd (eCut (eVar 0) (oSome (eVar 2)) oNone) (eCut (eVar 0) oNone (oSome (eVar 2)))) (eVar 0)))) (sRet (eVar 2)) sNx) (rngD 1 ((p + 1 : Nat) : Int)) [.val (encL (mk m s p)), .val (.int p), .no] n = _ := ef
    have e1 : ((p + 1 : Nat) : Int) = (p : Int) + 1 := by omega
    rw [e1] at r ef'
    simp only [f__least_period, g__least_period]
    generalize encL (mk m s p) = E at *
    simp [ln, r, ef']
end K36
end

section
set_option Elab.async false
set_option linter.all false
set_option autoImplicit false
set_option maxRecDepth 100000
namespace K36
open DL PySem L2 P_k36_whole_set_identities PyProof.Rows
def LF0 : SX := (sAsg (gV 4) (eComp [9] (gV 9) (iRng1D (eCons (eVar 2) eNil)) tYesD (e2 dIn (eVar 9) (eVar 3))))
def LF1 : SX := (sAsg (gV 5) (eCall (f__least_period) (eCons (eVar 4) eNil)))
def LF2 : SX := (sAsg (gV 4) (eCut (eVar 4) oNone (oSome (eVar 5))))
def LF3 : SX := (sAsg (gV 6) (eDComp [10] (gV 10) (iOf (eVar 0)) tYesD (eVar 10) (eC (.bl true))))
def LF4 : SX := (sAsg (gV 7) (eVar 1))
def LF5 : SX := (sWhile (fun _ => 1000000) (tAndD (tB (e2 dGt (eVar 7) (eC (.int 0)))) (tB (e2 dEq (e2 dIn (e2 dSub (eVar 7) (eC (.int 1))) (eVar 6)) (e2 dIx (eVar 4) (e1 dNeg (eC (.int 1))))))) (sSeq (sAsg (gV 7) (e2 dSub (eVar 7) (eC (.int 1))))
  (sAsg (gV 4) (e2 dAdd (eCut (eVar 4) (oSome (e1 dNeg (eC (.int 1)))) oNone) (eCut (eVar 4) oNone (oSome (e1 dNeg (eC (.int 1)))))))))
def LF6 : SX := (sAsg (gV 8) (eB dTupOf (eCons (eComp [11] (gV 11) (iOf (eVar 0)) (tB (e2 dLt (eVar 11) (eVar 7))) (eVar 11)) eNil)))
def LF7 : SX := (sRet (eTup (eCons (eVar 8) (eCons (eVar 7) (eCons (eVar 5) (eCons (eB dTupOf (eCons (eComp [9] (gV 9) (iRng1D (eCons (eVar 5) eNil)) (tTru (e2 dIxA (eVar 4) (eVar 9))) (eVar 9)) eNil)) eNil))))))
def LF : SX := (sSeq (LF0) (sSeq (LF1) (sSeq (LF2) (sSeq (LF3) (sSeq (LF4) (sSeq (LF5) (sSeq (LF6) (LF7))))))))
theorem LF_eq : g_least_form = LF := rfl
theorem tupOf (ds : List D) : dTupOf [.lst ds] = some (.tup ds) := rfl
theorem mem_eN (m : Nat → Bool) (s k : Nat) : decide (k ∈ eN m s) = (decide (k < s) && m k) := by
  unfold eN
  by_cases h : k < s
  · cases e : m k <;> simp [h, e]
  · simp [h]
theorem mem_lN (m : Nat → Bool) (s p k : Nat) : decide (k ∈ lN m s p) = (decide (k < p) && m (s + k)) := by
  unfold lN
  by_cases h : k < p
  · cases e : m (s + k) <;> simp [h, e]
  · simp [h]
theorem eN_lt (m : Nat → Bool) (s : Nat) : ∀ k ∈ eN m s, k < s := fun k h => by
  unfold eN at h
  rw [List.mem_filter, List.mem_range] at h
  exact h.1
theorem lN_lt (m : Nat → Bool) (s p : Nat) : ∀ k ∈ lN m s p, k < p := fun k h => by
  unfold lN at h
  rw [List.mem_filter, List.mem_range] at h
  exact h.1
theorem eN_pw (m : Nat → Bool) (s : Nat) : (eN m s).Pairwise (· < ·) := List.Pairwise.filter _ List.pairwise_lt_range
theorem lN_pw (m : Nat → Bool) (s p : Nat) : (lN m s p).Pairwise (· < ·) := List.Pairwise.filter _ List.pairwise_lt_range
theorem eN_len (m : Nat → Bool) (s : Nat) : (eN m s).length ≤ s := by
  have := List.length_filter_le m (List.range s)
  rw [List.length_range] at this
  exact this
theorem lN_len (m : Nat → Bool) (s p : Nat) : (lN m s p).length ≤ p := by
  have := List.length_filter_le (fun r => m (s + r)) (List.range p)
  rw [List.length_range] at this
  exact this
theorem eN_cut (m : Nat → Bool) (s t : Nat) (h : t ≤ s) : (eN m s).filter (fun k => decide (k < t)) = eN m t := by
  unfold eN
  rw [List.filter_filter]
  have e : s = t + (s - t) := by omega
  rw [e, List.range_add, List.filter_append]
  have h1 : (List.range t).filter (fun a => decide (a < t) && m a) = (List.range t).filter m := List.filter_congr fun x hx => by
    rw [List.mem_range] at hx
    simp [hx]
  have h2 : ((List.range (s - t)).map (t + ·)).filter (fun a => decide (a < t) && m a) = [] := by
    rw [List.filter_eq_nil_iff]
    intro x hx
    obtain ⟨y, _, rfl⟩ := List.mem_map.mp hx
    have : ¬ t + y < t := by omega
    simp [this]
  rw [h1, h2, List.append_nil]
def iT (ns : List Nat) : D := encT ns
def fmD (m : Nat → Bool) (s p : Nat) : D := .tup [iT (eN m s), .int s, .int p, iT (lN m s p)]
theorem mk_last (m : Nat → Bool) (s q : Nat) (h : 1 ≤ q) : (mk m s q).getLast? = some (m (s + (q - 1))) := by
  rw [List.getLast?_eq_getElem?, mk_len, mk_get m s q _ (by omega)]
theorem mk_back (m : Nat → Bool) (t q : Nat) (h : 1 ≤ q) (e : m (t + q) = m t) : (mk m (t + 1) q).drop ((mk m (t + 1) q).length - 1) ++ (mk m (t + 1) q).dropLast = mk m t q := by
  rw [mk_len]
  apply List.ext_getElem?
  intro i
  by_cases h0 : i = 0
  · subst h0
    rw [List.getElem?_append_left (by rw [List.length_drop, mk_len]; omega), List.getElem?_drop, mk_get _ _ _ _ (by omega), mk_get _ _ _ _ (by omega)]
    show some (m (t + 1 + (q - 1 + 0))) = some (m t)
    rw [← e]
    congr 2; omega
  · rw [List.getElem?_append_right (by rw [List.length_drop, mk_len]; omega), List.length_drop, mk_len, List.getElem?_dropLast, mk_len]
    by_cases h1 : i < q
    · rw [if_pos (by omega), mk_get _ _ _ _ (by omega), mk_get _ _ _ _ h1]
      congr 2; omega
    · rw [if_neg (by omega), List.getElem?_eq_none (by rw [mk_len]; omega)]
theorem form_ok (m : Nat → Bool) (s p : Nat) (hp : Ev m s p) (hp1 : 1 ≤ p) (hp2 : p ≤ 100000) (hs : s ≤ 100000) : ∃ t q, Least m t q ∧ t ≤ s ∧ q ≤ p ∧ ∀ n, f_least_form [iT (eN m s), .int s, .int p, iT (lN m s p)] n = some (.ok (fmD m t q), n) := by
  obtain ⟨q, q1, qd, qe, qm, qf⟩ := period_ok m s p hp hp1 hp2
  have qp : q ≤ p := Nat.le_of_dvd hp1 qd
  -- the least start
  obtain ⟨t, t1, t2, t3⟩ := least_nat (fun t => decide (t ≤ s) && (List.range (s - t)).all fun i => m (t + i + q) == m (t + i)) s (by simp)
  rw [Bool.and_eq_true, decide_eq_true_eq, List.all_eq_true] at t2
  have te : Ev m t q := fun n hn => by
    by_cases c : n < s
    · have := t2.2 (n - t) (List.mem_range.mpr (by omega))
      have e : t + (n - t) = n := by omega
      rw [e] at this
      exact eq_of_beq this
    · exact qe n (by omega)
  have t0 : t = 0 ∨ m (t - 1 + q) ≠ m (t - 1) := by
    by_cases c : t = 0
    · exact .inl c
    · refine .inr fun e => ?_
      have z := t3 (t - 1) (by omega)
      have : (decide (t - 1 ≤ s) && (List.range (s - (t - 1))).all fun i => m (t - 1 + i + q) == m (t - 1 + i)) = true := by
        rw [decide_eq_true (by omega), Bool.true_and, List.all_eq_true]
        intro i hi
        by_cases h0 : i = 0
        · subst h0; simp [e]
        · have := te (t - 1 + i) (by omega)
          rw [this]; simp
      rw [this] at z
      cases z
  have L := least_of hp hp1 qd qe q1 qm te t0
  refine ⟨t, q, L, t2.1, qp, fun n => ?_⟩
  -- the statements
  let R (s4 s5 s6 s7 s8 : Sl) : DL.Env := [.val (iT (eN m s)), .val (.int s), .val (.int p), .val (iT (lN m s p)), s4, s5, s6, s7, s8, .no, .no, .no]
  have g0 : LF0 (R .no .no .no .no .no) n = some (.ok (.nx (R (.val (encL (mk m s p))) .no .no .no .no)), n) := by
    have c := comp_all (fun k : Nat => D.int k) (compB [9] (gV 9) tYesD (e2 dIn (eVar 9) (eVar 3)) (R .no .no .no .no .no)) (fun k => .bl (m (s + k))) n (List.range p) fun k hk => by
      rw [List.mem_range] at hk
      have := in_T (lN m s p) k
      rw [mem_lN, decide_eq_true hk, Bool.true_and] at this
      have : dIn (.int k) (iT (lN m s p)) = some (.bl (m (s + k))) := this
      simp [R, this]
    have r := rng1 p (by omega)
    have z : ((List.range p).map fun k => D.bl (m (s + k))).length ≤ 16777216 := by simp; omega
    have e : encL (mk m s p) = .lst ((List.range p).map fun k => D.bl (m (s + k))) := by
      unfold encL mk
      rw [List.map_map]
      rfl
    rw [e]
    generalize ((List.range p).map fun k => D.bl (m (s + k))) = A at *
    simp only [R] at c ⊢
    unfold LF0
    generalize ((List.range p).map fun i : Nat => D.int i) = A0 at *
    simp [r, c, mkLst_of z]
  have g1 : LF1 (R (.val (encL (mk m s p))) .no .no .no .no) n = some (.ok (.nx (R (.val (encL (mk m s p))) (.val (.int q)) .no .no .no)), n) := by
    have f := qf n
    generalize encL (mk m s p) = A at *
    simp only [R]
    unfold LF1
    simp [f]
  have g2 : LF2 (R (.val (encL (mk m s p))) (.val (.int q)) .no .no .no) n = some (.ok (.nx (R (.val (encL (mk m s q))) (.val (.int q)) .no .no .no)), n) := by
    have c := cutL_to (mk m s p) q
    rw [mk_take m s p q qp] at c
    generalize encL (mk m s p) = A at *
    generalize encL (mk m s q) = B at *
    simp only [R]
    unfold LF2
    simp [c]
  obtain ⟨ks, vs, ed, hd⟩ := dcomp_ints (dcompB [10] (gV 10) tYesD (eVar 10) (eC (.bl true)) (R (.val (encL (mk m s q))) (.val (.int q)) .no .no .no)) n (eN m s) [] [] (fun k hk => by
    simp only [R]
    simp [dcompB, hide, wipeD]
    rfl) rfl (by have := eN_len m s; simp; omega)
  have g3 : LF3 (R (.val (encL (mk m s q))) (.val (.int q)) .no .no .no) n = some (.ok (.nx (R (.val (encL (mk m s q))) (.val (.int q)) (.val (.dic ks vs)) .no .no)), n) := by
    have it : dItems (iT (eN m s)) = some ((eN m s).map fun k : Nat => D.int k) := rfl
    simp only [R] at ed ⊢
    unfold LF3
    generalize ((eN m s).map fun k : Nat => D.int k) = A at *
    generalize iT (eN m s) = B at *
    generalize encL (mk m s q) = C at *
    simp [it, ed]
  have g4 : LF4 (R (.val (encL (mk m s q))) (.val (.int q)) (.val (.dic ks vs)) .no .no) n = some (.ok (.nx (R (.val (encL (mk m s q))) (.val (.int q)) (.val (.dic ks vs)) (.val (.int s)) .no)), n) := rfl
  have hdk : ∀ k : Nat, k < s → dIn (.int (k : Int)) (.dic ks vs) = some (.bl (m k)) := fun k hk => by
    rw [in_dict, hd k, mem_eN, decide_eq_true hk]
    simp [valD]
  have loop : ∀ (d x f : Nat), x = t + d → x ≤ s → d < f → Ev m t q → whileD (tAndD (tB (e2 dGt (eVar 7) (eC (.int 0)))) (tB (e2 dEq (e2 dIn (e2 dSub (eVar 7) (eC (.int 1))) (eVar 6)) (e2 dIx (eVar 4) (e1 dNeg (eC (.int 1))))))) (sSeq (sAsg (gV 7) (e2 dSub (eVar 7) (eC (.int 1)))) (sAsg (gV 4) (e2 dAdd (eCut (eVar 4) (oSome (e1 dNeg (eC (.int 1)))) oNone) (eCut (eVar 4) oNone (oSome (e1 dNeg (eC (.int 1)))))))) f (R (.val (encL (mk m x q))) (.val (.int q)) (.val (.dic ks vs)) (.val (.int x)) .no) n = some (.ok (.nx (R (.val (encL (mk m t q))) (.val (.int q)) (.val (.dic ks vs)) (.val (.int t)) .no)), n) := by
    intro d
    induction d with
    | zero =>
      intro x f hx hxs hf _
      obtain ⟨f, rfl⟩ : ∃ g, f = g + 1 := ⟨f - 1, by omega⟩
      have hx : x = t := hx
      subst hx
      rw [whileD_s]
      rcases t0 with h | h
      · subst h
        simp only [R]
        simp
      · have hx0 : ¬ x = 0 := fun e => by
          subst e
          exact h (te 0 (Nat.le_refl _))
        have pos : (0 : Int) < (x : Int) := by omega
        have i1 := hdk (x - 1) (by omega)
        have c1 : ((x - 1 : Nat) : Int) = (x : Int) - 1 := by omega
        rw [c1] at i1
        have i2 := ixL_last (mk m x q) _ (mk_last m x q q1)
        have c2 : x + (q - 1) = x - 1 + q := by omega
        rw [c2, encB] at i2
        have ne : (m (x - 1) == m (x - 1 + q)) = false := by
          rw [beq_eq_false_iff_ne]
          exact fun e => h e.symm
        generalize encL (mk m x q) = A at *
        simp only [R]
        have posN : 0 < x := by omega
        simp [pos, posN, i1, i2, ne]
    | succ d ih =>
      intro x f hx hxs hf _
      obtain ⟨f, rfl⟩ : ∃ g, f = g + 1 := ⟨f - 1, by omega⟩
      rw [whileD_s]
      have pos : (0 : Int) < (x : Int) := by omega
      have i1 := hdk (x - 1) (by omega)
      have c1 : ((x - 1 : Nat) : Int) = (x : Int) - 1 := by omega
      rw [c1] at i1
      have i2 := ixL_last (mk m x q) _ (mk_last m x q q1)
      have c2 : x + (q - 1) = x - 1 + q := by omega
      have c3 := te (x - 1) (by omega)
      rw [c2, encB, c3] at i2
      have back := mk_back m (x - 1) q q1 c3
      rw [Nat.sub_add_cancel (by omega)] at back
      have k1 := cutL_last (mk m x q)
      have k2 := cutL_init (mk m x q)
      have k3 := addL (xs := (mk m x q).drop ((mk m x q).length - 1)) (ys := (mk m x q).dropLast) (by simp [mk_len]; omega)
      rw [back] at k3
      have nx := ih (x - 1) f (by omega) (by omega) (by omega) te
      rw [c1] at nx
      have ee : (m (x - 1) == m (x - 1)) = true := by simp
      generalize encL ((mk m x q).drop ((mk m x q).length - 1)) = A1 at *
      generalize encL ((mk m x q).dropLast) = A2 at *
      generalize encL (mk m x q) = A at *
      generalize encL (mk m (x - 1) q) = A3 at *
      simp only [R] at nx ⊢
      have posN : 0 < x := by omega
      simp [pos, posN, i1, i2, ee, k1, k2, k3]
      exact nx
  have g5 : LF5 (R (.val (encL (mk m s q))) (.val (.int q)) (.val (.dic ks vs)) (.val (.int s)) .no) n = some (.ok (.nx (R (.val (encL (mk m t q))) (.val (.int q)) (.val (.dic ks vs)) (.val (.int t)) .no)), n) := by
    unfold LF5
    rw [sWhile_ap]
    exact loop (s - t) s 1000000 (by omega) (Nat.le_refl _) (by omega) te
  have g6 : LF6 (R (.val (encL (mk m t q))) (.val (.int q)) (.val (.dic ks vs)) (.val (.int t)) .no) n = some (.ok (.nx (R (.val (encL (mk m t q))) (.val (.int q)) (.val (.dic ks vs)) (.val (.int t)) (.val (iT (eN m t))))), n) := by
    have it : dItems (iT (eN m s)) = some ((eN m s).map fun k : Nat => D.int k) := rfl
    have c := comp_filter (fun k : Nat => D.int k) (compB [11] (gV 11) (tB (e2 dLt (eVar 11) (eVar 7))) (eVar 11) (R (.val (encL (mk m t q))) (.val (.int q)) (.val (.dic ks vs)) (.val (.int t)) .no)) (fun k => decide (k < t)) n (eN m s) fun k hk => by
      have : decide ((k : Int) < (t : Int)) = decide (k < t) := decide_eq_decide.mpr (by omega)
      simp only [R]
      simp only [compB_ap, wipeD_cons, wipeD_nil, List.set_cons_succ, List.set_cons_zero, hide_val, hide_no, hide_nil, gV_ap, opt_some, bind_ap, bindR_ok, tB_ap, e2_ap, eVar_s, eVar_0, dLt_int, dBool_bl, pure_ap]
      rw [this]
      cases decide (k < t) <;> rfl
    rw [eN_cut m s t t2.1] at c
    have z : ((eN m t).map fun k : Nat => D.int k).length ≤ 16777216 := by have := eN_len m t; simp; omega
    have e : iT (eN m t) = .tup ((eN m t).map fun k : Nat => D.int k) := rfl
    rw [e]
    simp only [R] at c ⊢
    unfold LF6
    generalize ((eN m s).map fun k : Nat => D.int k) = A at *
    generalize ((eN m t).map fun k : Nat => D.int k) = A2 at *
    generalize iT (eN m s) = B at *
    generalize encL (mk m t q) = C at *
    simp [it, c, mkLst_of z, tupOf]
  have g7 : LF7 (R (.val (encL (mk m t q))) (.val (.int q)) (.val (.dic ks vs)) (.val (.int t)) (.val (iT (eN m t)))) n = some (.ok (.ret (fmD m t q)), n) := by
    have r := rng1 q (by omega)
    have c := comp_filter (fun k : Nat => D.int k) (compB [9] (gV 9) (tTru (e2 dIxA (eVar 4) (eVar 9))) (eVar 9) (R (.val (encL (mk m t q))) (.val (.int q)) (.val (.dic ks vs)) (.val (.int t)) (.val (iT (eN m t))))) (fun k => m (t + k)) n (List.range q) fun k hk => by
      rw [List.mem_range] at hk
      have := ixL (mk_get m t q k hk)
      rw [encB] at this
      generalize encL (mk m t q) = A at *
      simp only [R]
      simp [this]
      cases m (t + k) <;> rfl
    have z : (((List.range q).filter fun k => m (t + k)).map fun k : Nat => D.int k).length ≤ 16777216 := by have := lN_len m t q; unfold lN at this; simp; omega
    have e : fmD m t q = .tup [iT (eN m t), .int t, .int q, .tup (((List.range q).filter fun k => m (t + k)).map fun k : Nat => D.int k)] := rfl
    rw [e]
    simp only [R] at c ⊢
    unfold LF7
    generalize ((List.range q).map fun k : Nat => D.int k) = A at *
    generalize (((List.range q).filter fun k => m (t + k)).map fun k : Nat => D.int k) = A2 at *
    generalize iT (eN m t) = B at *
    generalize encL (mk m t q) = C at *
    simp [r, c, mkLst_of z, tupOf]
  unfold f_least_form
  rw [runD_ap, bind_ap, LF_eq]
  have go : LF (R .no .no .no .no .no) n = some (.ok (.ret (fmD m t q)), n) := seq_go g0 (seq_go g1 (seq_go g2 (seq_go g3 (seq_go g4 (seq_go g5 (seq_go g6 g7))))))
  have go' : LF ([iT (eN m s), .int s, .int p, iT (lN m s p)].map Sl.val ++ List.replicate (12 - 4) Sl.no) n = _ := go
  rw [go']
  rfl
end K36
end

section
set_option Elab.async false
set_option linter.all false
set_option autoImplicit false
set_option maxRecDepth 100000
namespace K36
open DL PySem L2 P_k36_whole_set_identities PyProof.Rows
def IN0 : SX := (sIf (tOrD (tNotD (tTru (eCall (f_is_number) (eCons (eVar 2) eNil)))) (tOrD (tB (e2 dLt (eVar 2) (eC (.int 0)))) (tOrD (tNotD (tTru (eCall (f_is_number) (eCons (eVar 3) eNil)))) (tNotD (tB (eChain dLeA dLeA (eC (.int 1)) (eVar 3) (eC (.int 5040)))))))) (sRaise 1) sNx)
def IN1 : SX := (sIf (tOrD (tNotD (tTru (eCall (f__are_numbers) (eCons (eVar 1) (eCons (eC (.int 0)) (eCons (eVar 2) eNil)))))) (tNotD (tTru (eCall (f__are_numbers) (eCons (eVar 4) (eCons (eC (.int 0)) (eCons (eVar 3) eNil))))))) (sRaise 1) sNx)
def IN2 : SX := (sUp 0 (uFld 2 "form") (eCall (f_least_form) (eCons (eVar 1) (eCons (eVar 2) (eCons (eVar 3) (eCons (eVar 4) eNil))))))
def IN3 : SX := (sFlds 0 2 ["early", "start", "period", "later"] (eOwnFld 0 2 "form"))
def IN : SX := (sSeq (IN0) (sSeq (IN1) (sSeq (IN2) (IN3))))
theorem IN_eq : g_Sizes___init__ = IN := rfl
def SF0 : SX := (sAsg (gV 3) (eCall (f_common) (eCons (e2 dIx (eVar 0) (eC (.int 2))) (eCons (e2 dIx (eVar 1) (eC (.int 2))) eNil))))
def SF1 : SX := (sIf (tB (e2 dGt (eVar 3) (eC (.int 5040)))) (sRaise 1) sNx)
def SF2 : SX := (sAsg (gV 4) (eB dMax2 (eCons (e2 dIx (eVar 0) (eC (.int 1))) (eCons (e2 dIx (eVar 1) (eC (.int 1))) eNil))))
def SF3 : SX := (sOwn 5 (.lst []))
def SF4b0 : SX := (sIf (tB (e2 dEq (eVar 2) (eC (.str "and")))) (sApp 5 (eAnd (eVar 6) (eVar 7))) (sIf (tB (e2 dEq (eVar 2) (eC (.str "or")))) (sApp 5 (eOr (eVar 6) (eVar 7))) (sApp 5 (eAnd (eVar 6) (eNot (eVar 7))))))
def SF4b : SX := (SF4b0)
def SF4 : SX := (sFor (gT (gsC (gV 6) (gsC (gV 7) gsN))) (iZipD (eCons (eCall (f_marks_of) (eCons (eVar 0) (eCons (e2 dAdd (eVar 4) (eVar 3)) eNil))) (eCons (eCall (f_marks_of) (eCons (eVar 1) (eCons (e2 dAdd (eVar 4) (eVar 3)) eNil))) eNil))) SF4b)
def SF5 : SX := (sFrz 5)
def SF6 : SX := (sAsg (gV 8) (eB dTupOf (eCons (eComp [9] (gV 9) (iRng1D (eCons (eVar 4) eNil)) (tTru (e2 dIxA (eVar 5) (eVar 9))) (eVar 9)) eNil)))
def SF7 : SX := (sRet (eTup (eCons (eVar 8) (eCons (eVar 4) (eCons (eVar 3) (eCons (eB dTupOf (eCons (eComp [10] (gV 10) (iRng1D (eCons (eVar 3) eNil)) (tTru (e2 dIxA (eVar 5) (e2 dAdd (eVar 4) (eVar 10)))) (eVar 10)) eNil)) eNil))))))
def SF : SX := (sSeq (SF0) (sSeq (SF1) (sSeq (SF2) (sSeq (SF3) (sSeq (SF4) (sSeq (SF5) (sSeq (SF6) (SF7))))))))
theorem SF_eq : g_set_form = SF := rfl
def MO0 : SX := (sAsg (gT (gsC (gV 2) (gsC (gV 3) (gsC (gV 4) (gsC (gV 5) gsN))))) (eVar 0))
def MO1 : SX := (sAsg (gV 6) (eDComp [8] (gV 8) (iOf (eVar 2)) tYesD (eVar 8) (eC (.bl true))))
def MO2 : SX := (sAsg (gV 7) (eDComp [9] (gV 9) (iOf (eVar 5)) tYesD (eVar 9) (eC (.bl true))))
def MO3 : SX := (sRet (eComp [8] (gV 8) (iRng1D (eCons (eVar 1) eNil)) tYesD (eIf (tB (e2 dLt (eVar 8) (eVar 3))) (e2 dIn (eVar 8) (eVar 6)) (e2 dIn (e2 dMod (e2 dSub (eVar 8) (eVar 3)) (eVar 4)) (eVar 7)))))
def MO : SX := (sSeq (MO0) (sSeq (MO1) (sSeq (MO2) (MO3))))
theorem MO_eq : g_marks_of = MO := rfl
def szD (m : Nat → Bool) (s p : Nat) : D := .obj 2 ["form", "early", "start", "period", "later"] [fmD m s p, iT (eN m s), .int s, .int p, iT (lN m s p)]
theorem init_ok (m : Nat → Bool) (s p : Nat) (hp : Ev m s p) (hp1 : 1 ≤ p) (hp2 : p ≤ 5040) (hs : s ≤ 10000) : ∃ t q, Least m t q ∧ t ≤ s ∧ q ≤ p ∧ ∀ n, f_Sizes___init__ [iT (eN m s), .int s, .int p, iT (lN m s p)] n = some (.ok (szD m t q), n) := by
  obtain ⟨t, q, L, h1, h2, hf⟩ := form_ok m s p hp hp1 (by omega) (by omega)
  refine ⟨t, q, L, h1, h2, fun n => ?_⟩
  have f := hf n
  have n1 := nums_ok (eN m s) s (eN_lt m s) (eN_pw m s) (by have := eN_len m s; omega) n
  have n2 := nums_ok (lN m s p) p (lN_lt m s p) (lN_pw m s p) (by have := lN_len m s p; omega) n
  have n1 : f__are_numbers [iT (eN m s), .int 0, .int s] n = some (.ok (.bl true), n) := n1
  have n2 : f__are_numbers [iT (lN m s p), .int 0, .int p] n = some (.ok (.bl true), n) := n2
  have c1 : ¬ ((s : Int) < 0) := by omega
  have c2 : dLeA (.int 1) (.int (p : Int)) = some (.bl true) := by
    show some (D.bl (decide ((1 : Int) ≤ p))) = _
    rw [decide_eq_true (by omega)]
  have c3 : dLeA (.int (p : Int)) (.int 5040) = some (.bl true) := by
    show some (D.bl (decide ((p : Int) ≤ 5040))) = _
    rw [decide_eq_true (by omega)]
  generalize iT (eN m s) = A at *
  generalize iT (lN m s p) = B at *
  have a0 : IN0 [.own (.obj 2 [] []), .val A, .val (.int s), .val (.int p), .val B] n = some (.ok (.nx [.own (.obj 2 [] []), .val A, .val (.int s), .val (.int p), .val B]), n) := by
    unfold IN0
    simp [is_int, c1, c2, c3]
  have a1 : IN1 [.own (.obj 2 [] []), .val A, .val (.int s), .val (.int p), .val B] n = some (.ok (.nx [.own (.obj 2 [] []), .val A, .val (.int s), .val (.int p), .val B]), n) := by
    unfold IN1
    simp [n1, n2]
  have a2 : IN2 [.own (.obj 2 [] []), .val A, .val (.int s), .val (.int p), .val B] n = some (.ok (.nx [.own (.obj 2 ["form"] [fmD m t q]), .val A, .val (.int s), .val (.int p), .val B]), n) := by
    unfold IN2
    generalize fmD m t q = Fm at *
    simp [f]
    rfl
  have a3 : IN3 [.own (.obj 2 ["form"] [fmD m t q]), .val A, .val (.int s), .val (.int p), .val B] n = some (.ok (.nx [.own (szD m t q), .val A, .val (.int s), .val (.int p), .val B]), n) := by
    unfold szD fmD
    generalize iT (eN m t) = A1
    generalize iT (lN m t q) = B1
    kernel_rfl
  have go : IN [.own (.obj 2 [] []), .val A, .val (.int s), .val (.int p), .val B] n = some (.ok (.nx [.own (szD m t q), .val A, .val (.int s), .val (.int p), .val B]), n) := seq_go a0 (seq_go a1 (seq_go a2 a3))
  show bindR (IN [.own (.obj 2 [] []), .val A, .val (.int s), .val (.int p), .val B] n) runIK = _
  rw [go]
  rfl
/-! ### the common period -/
theorem gcd_run (n : Int) (s0 s1 : Sl) : ∀ (f a b : Nat), b < f → whileD (tB (e2 dNe (eVar 3) (eC (.int 0)))) (sPar [2, 3] (eCons (eVar 3) (eCons (e2 dMod (eVar 2) (eVar 3)) eNil))) f [s0, s1, .val (.int a), .val (.int b)] n = some (.ok (.nx [s0, s1, .val (.int (Nat.gcd a b : Nat)), .val (.int 0)]), n)
  | 0, a, b, h => absurd h (by omega)
  | f + 1, a, b, h => by
    rw [whileD_s]
    by_cases c : b = 0
    · subst c
      simp
    · have hb : (0 : Int) < (b : Int) := by omega
      have dm := dMod_int (i := (a : Int)) hb
      have e : (a : Int) % (b : Int) = ((a % b : Nat) : Int) := by omega
      rw [e] at dm
      have lt : a % b < b := Nat.mod_lt _ (by omega)
      have ih := gcd_run n s0 s1 f b (a % b) (by omega)
      have g : Nat.gcd b (a % b) = Nat.gcd a b := by rw [Nat.gcd_comm b, ← Nat.gcd_rec, Nat.gcd_comm]
      rw [g] at ih
      generalize a % b = r at *
      have c' : ¬ ((b : Int) = 0) := by omega
      simp [c, dm]
      exact ih
def lcmP (a b : Nat) : Nat := a / Nat.gcd a b * b
theorem common_ok (a b : Nat) (ha : 1 ≤ a) (hb : 1 ≤ b) (ha2 : a ≤ 5040) (hb2 : b ≤ 5040) (n : Int) : f_common [.int a, .int b] n = some (.ok (.int (lcmP a b : Nat)), n) := by
  have r := gcd_run n (.val (.int a)) (.val (.int b)) 1000000 a b (by omega)
  have gp : 0 < Nat.gcd a b := Nat.gcd_pos_of_pos_left _ ha
  have gl : Nat.gcd a b ≤ a := Nat.gcd_le_left _ ha
  have dd := dDiv_int (i := (a : Int)) (j := ((Nat.gcd a b : Nat) : Int)) (by omega) (by omega)
  have e : (a : Int) / ((Nat.gcd a b : Nat) : Int) = ((a / Nat.gcd a b : Nat) : Int) := by omega
  rw [e] at dd
  have mm := dMul_int (i := ((a / Nat.gcd a b : Nat) : Int)) (j := (b : Int)) (.inr (small64_of (by omega) (by omega)))
  have e2 : ((a / Nat.gcd a b : Nat) : Int) * (b : Int) = ((lcmP a b : Nat) : Int) := by unfold lcmP; exact (Int.natCast_mul _ _).symm
  rw [e2] at mm
  generalize lcmP a b = L at *
  generalize a / Nat.gcd a b = Q at *
  generalize Nat.gcd a b = G at *
  simp only [f_common, g_common]
  simp
  simp [r, dd, mm]
theorem lcm_dvd1 (a b : Nat) (ha : 1 ≤ a) : a ∣ lcmP a b := by
  unfold lcmP
  obtain ⟨c, hc⟩ := Nat.gcd_dvd_right a b
  have gp : 0 < Nat.gcd a b := Nat.gcd_pos_of_pos_left _ ha
  have : a / Nat.gcd a b * b = a * c := by
    have h1 : a / Nat.gcd a b * b = a / Nat.gcd a b * (Nat.gcd a b * c) := by rw [← hc]
    rw [h1, ← Nat.mul_assoc, Nat.div_mul_cancel (Nat.gcd_dvd_left a b)]
  rw [this]
  exact Nat.dvd_mul_right a c
theorem lcm_dvd2 (a b : Nat) : b ∣ lcmP a b := Nat.dvd_mul_left _ _
theorem lcm_pos (a b : Nat) (ha : 1 ≤ a) (hb : 1 ≤ b) : 1 ≤ lcmP a b := by
  unfold lcmP
  have gp : 0 < Nat.gcd a b := Nat.gcd_pos_of_pos_left _ ha
  have : 0 < a / Nat.gcd a b := Nat.div_pos (Nat.gcd_le_left _ ha) gp
  exact Nat.mul_pos this hb
theorem lcm_le (a b : Nat) : lcmP a b ≤ a * b := by
  unfold lcmP
  exact Nat.mul_le_mul_right _ (Nat.div_le_self _ _)
theorem Ev.dvd {m : Nat → Bool} {s p q : Nat} (h : Ev m s p) (d : p ∣ q) : Ev m s q := by
  obtain ⟨c, rfl⟩ := d
  rw [Nat.mul_comm]
  exact h.mul c
theorem ev_at {m : Nat → Bool} {s p k : Nat} (h : Ev m s p) (hk : s ≤ k) : m (s + (k - s) % p) = m k := by
  have e : k = s + (k - s) % p + ((k - s) / p) * p := by
    have := Nat.mod_add_div (k - s) p
    rw [Nat.mul_comm] at this
    omega
  have := h.mul ((k - s) / p) (s + (k - s) % p) (by omega)
  rw [← e] at this
  exact this.symm
/-! ### the truth values of a form -/
theorem marks_ok (m : Nat → Bool) (s p N : Nat) (hp : Ev m s p) (hp1 : 1 ≤ p) (hp2 : p ≤ 5040) (hs : s ≤ 10000) (hN : N ≤ 100000) (n : Int) : f_marks_of [fmD m s p, .int N] n = some (.ok (encL ((List.range N).map m)), n) := by
  let R (s6 s7 : Sl) : DL.Env := [.val (fmD m s p), .val (.int N), .val (iT (eN m s)), .val (.int s), .val (.int p), .val (iT (lN m s p)), s6, s7, .no, .no]
  have g0 : MO0 [.val (fmD m s p), .val (.int N), .no, .no, .no, .no, .no, .no, .no, .no] n = some (.ok (.nx (R .no .no)), n) := rfl
  obtain ⟨k1, v1, ed1, hd1⟩ := dcomp_ints (dcompB [8] (gV 8) tYesD (eVar 8) (eC (.bl true)) (R .no .no)) n (eN m s) [] [] (fun k hk => by
    simp only [R]
    simp [dcompB, hide, wipeD]
    rfl) rfl (by have := eN_len m s; simp; omega)
  have g1 : MO1 (R .no .no) n = some (.ok (.nx (R (.val (.dic k1 v1)) .no)), n) := by
    have it : dItems (iT (eN m s)) = some ((eN m s).map fun k : Nat => D.int k) := rfl
    simp only [R] at ed1 ⊢
    unfold MO1
    generalize ((eN m s).map fun k : Nat => D.int k) = A at *
    generalize iT (eN m s) = B at *
    generalize fmD m s p = C at *
    simp [it, ed1]
  obtain ⟨k2, v2, ed2, hd2⟩ := dcomp_ints (dcompB [9] (gV 9) tYesD (eVar 9) (eC (.bl true)) (R (.val (.dic k1 v1)) .no)) n (lN m s p) [] [] (fun k hk => by
    simp only [R]
    simp [dcompB, hide, wipeD]
    rfl) rfl (by have := lN_len m s p; simp; omega)
  have g2 : MO2 (R (.val (.dic k1 v1)) .no) n = some (.ok (.nx (R (.val (.dic k1 v1)) (.val (.dic k2 v2)))), n) := by
    have it : dItems (iT (lN m s p)) = some ((lN m s p).map fun k : Nat => D.int k) := rfl
    simp only [R] at ed2 ⊢
    unfold MO2
    generalize ((lN m s p).map fun k : Nat => D.int k) = A at *
    generalize iT (lN m s p) = B at *
    generalize fmD m s p = C at *
    simp [it, ed2]
  have g3 : MO3 (R (.val (.dic k1 v1)) (.val (.dic k2 v2))) n = some (.ok (.ret (encL ((List.range N).map m))), n) := by
    have r := rng1 N (by omega)
    have c := comp_all (fun k : Nat => D.int k) (compB [8] (gV 8) tYesD (eIf (tB (e2 dLt (eVar 8) (eVar 3))) (e2 dIn (eVar 8) (eVar 6)) (e2 dIn (e2 dMod (e2 dSub (eVar 8) (eVar 3)) (eVar 4)) (eVar 7))) (R (.val (.dic k1 v1)) (.val (.dic k2 v2)))) (fun k => .bl (m k)) n (List.range N) fun k hk => by
      by_cases h : k < s
      · have i1 : dIn (.int (k : Int)) (.dic k1 v1) = some (.bl (m k)) := by
          rw [in_dict, hd1 k, mem_eN, decide_eq_true h]
          simp [valD]
        have hI : (k : Int) < (s : Int) := by omega
        simp only [R]
        simp [h, hI, i1]
      · have hm : (k - s) % p < p := Nat.mod_lt _ hp1
        have i1 : dIn (.int (((k - s) % p : Nat) : Int)) (.dic k2 v2) = some (.bl (m k)) := by
          rw [in_dict, hd2, mem_lN, decide_eq_true hm, ev_at hp (by omega)]
          simp [valD]
        have dm := dMod_int (i := (k : Int) - (s : Int)) (j := (p : Int)) (by omega)
        have e : ((k : Int) - (s : Int)) % (p : Int) = (((k - s) % p : Nat) : Int) := by
          have : (k : Int) - (s : Int) = ((k - s : Nat) : Int) := by omega
          rw [this]; rfl
        rw [e] at dm
        have hI : ¬ ((k : Int) < (s : Int)) := by omega
        generalize (k - s) % p = r at *
        simp only [R]
        simp [h, hI, dm, i1]
    have z : ((List.range N).map fun k => D.bl (m k)).length ≤ 16777216 := by simp; omega
    have e : encL ((List.range N).map m) = .lst ((List.range N).map fun k => D.bl (m k)) := by
      unfold encL
      rw [List.map_map]
      rfl
    rw [e]
    simp only [R] at c ⊢
    unfold MO3
    generalize ((List.range N).map fun k => D.bl (m k)) = A at *
    generalize ((List.range N).map fun i : Nat => D.int i) = A0 at *
    generalize fmD m s p = C at *
    simp [r, c, mkLst_of z]
  have go : MO [.val (fmD m s p), .val (.int N), .no, .no, .no, .no, .no, .no, .no, .no] n = _ := seq_go g0 (seq_go g1 (seq_go g2 g3))
  show bindR (MO [.val (fmD m s p), .val (.int N), .no, .no, .no, .no, .no, .no, .no, .no] n) runK = _
  rw [go]
  rfl
end K36
end

section
set_option Elab.async false
set_option linter.all false
set_option autoImplicit false
set_option maxRecDepth 100000
namespace K36
open DL PySem L2 P_k36_whole_set_identities PyProof.Rows
theorem uApp_ok (d : D) (ds : List D) (h : ds.length < 16777216) : uApp d (.lst ds) = some (.lst (ds ++ [d])) := by
  exact if_pos (by rw [sizeLine_eq]; exact h)
/-- a word, what it means of two truth values -/
def Wop (w : Str) (op : Bool → Bool → Bool) : Prop := ∀ (s0 s1 s3 s4 s8 s9 s10 : Sl) (acc : List D) (a b : Bool) (n : Int), acc.length < 16777216 →
  SF4b [s0, s1, .val (.str w), s3, s4, .own (.lst acc), .val (.bl a), .val (.bl b), s8, s9, s10] n = some (.ok (.nx [s0, s1, .val (.str w), s3, s4, .own (.lst (acc ++ [.bl (op a b)])), .val (.bl a), .val (.bl b), s8, s9, s10]), n)
theorem eq_s (a b : Str) (r : Bool) (h : dEq (.str a) (.str b) = some (.bl r)) : dEq (.str a) (.str b) = some (.bl r) := h
theorem w_and : Wop "and" (fun a b => a && b) := fun s0 s1 s3 s4 s8 s9 s10 acc a b n h => by
  have e1 : dEq (.str "and") (.str "and") = some (.bl true) := by kernel_rfl
  have u := fun d => uApp_ok d acc h
  cases a <;> cases b <;> (unfold SF4b SF4b0; simp [e1, u])
theorem w_or : Wop "or" (fun a b => a || b) := fun s0 s1 s3 s4 s8 s9 s10 acc a b n h => by
  have e1 : dEq (.str "or") (.str "and") = some (.bl false) := by kernel_rfl
  have e2 : dEq (.str "or") (.str "or") = some (.bl true) := by kernel_rfl
  have u := fun d => uApp_ok d acc h
  cases a <;> cases b <;> (unfold SF4b SF4b0; simp [e1, e2, u])
theorem w_less : Wop "less" (fun a b => a && !b) := fun s0 s1 s3 s4 s8 s9 s10 acc a b n h => by
  have e1 : dEq (.str "less") (.str "and") = some (.bl false) := by kernel_rfl
  have e2 : dEq (.str "less") (.str "or") = some (.bl false) := by kernel_rfl
  have u := fun d => uApp_ok d acc h
  cases a <;> cases b <;> (unfold SF4b SF4b0; simp [e1, e2, u])
theorem zipB (xs ys : List Bool) : zipD (xs.map D.bl) (ys.map D.bl) = (xs.zip ys).map fun p : Bool × Bool => D.tup [.bl p.1, .bl p.2] := by
  unfold zipD
  rw [List.zip_map, List.map_map]
  rfl
def nOwn (s : Sl) : Prop := ∀ d, s ≠ .own d
theorem hide_n {s : Sl} (h : nOwn s) (r : DL.Env) : hide (s :: r) = s :: hide r := by
  cases s with
  | no => rfl
  | val d => rfl
  | own d => exact absurd rfl (h d)
theorem nO : nOwn .no := fun d h => by cases h
theorem nV (d : D) : nOwn (.val d) := fun d h => by cases h
theorem zip_run {w : Str} {op : Bool → Bool → Bool} (hw : Wop w op) (s0 s1 s3 s4 s8 s9 s10 : Sl) (n : Int) : ∀ (ps : List (Bool × Bool)) (acc : List D) (s6 s7 : Sl), nOwn s6 → nOwn s7 → acc.length + ps.length < 16777216 → ∃ t6 t7, nOwn t6 ∧ nOwn t7 ∧ forD (gT (gsC (gV 6) (gsC (gV 7) gsN))) SF4b (ps.map fun p : Bool × Bool => D.tup [.bl p.1, .bl p.2]) [s0, s1, .val (.str w), s3, s4, .own (.lst acc), s6, s7, s8, s9, s10] n = some (.ok (.nx [s0, s1, .val (.str w), s3, s4, .own (.lst (acc ++ ps.map fun p => .bl (op p.1 p.2))), t6, t7, s8, s9, s10]), n)
  | [], acc, s6, s7, q6, q7, _ => ⟨s6, s7, q6, q7, by simp⟩
  | p :: ps, acc, s6, s7, q6, q7, h => by
    rw [List.length_cons] at h
    obtain ⟨t6, t7, r6, r7, e⟩ := zip_run hw s0 s1 s3 s4 s8 s9 s10 n ps (acc ++ [.bl (op p.1 p.2)]) (.val (.bl p.1)) (.val (.bl p.2)) (nV _) (nV _) (by simp; omega)
    have b := hw s0 s1 s3 s4 s8 s9 s10 acc p.1 p.2 n (by omega)
    refine ⟨t6, t7, r6, r7, ?_⟩
    rw [List.map_cons, forD_cons]
    simp [b, e]
theorem fm_per (m : Nat → Bool) (s p : Nat) : dIx (fmD m s p) (.int 2) = some (.int p) := rfl
theorem fm_st (m : Nat → Bool) (s p : Nat) : dIx (fmD m s p) (.int 1) = some (.int s) := rfl
theorem Ev.op {m1 m2 : Nat → Bool} {s p : Nat} (op : Bool → Bool → Bool) (h1 : Ev m1 s p) (h2 : Ev m2 s p) : Ev (fun k => op (m1 k) (m2 k)) s p := fun n hn => by
  show op (m1 (n + p)) (m2 (n + p)) = op (m1 n) (m2 n)
  rw [h1 n hn, h2 n hn]
theorem set_ok {w : Str} {op : Bool → Bool → Bool} (hw : Wop w op) (m1 m2 : Nat → Bool) (s1 p1 s2 p2 : Nat) (h1 : Ev m1 s1 p1) (h2 : Ev m2 s2 p2) (a1 : 1 ≤ p1) (a2 : 1 ≤ p2) (b1 : p1 ≤ 5040) (b2 : p2 ≤ 5040) (hL : lcmP p1 p2 ≤ 5040) (hs1 : s1 ≤ 10000) (hs2 : s2 ≤ 10000) (n : Int) :
    f_set_form [fmD m1 s1 p1, fmD m2 s2 p2, .str w] n = some (.ok (fmD (fun k => op (m1 k) (m2 k)) (max s1 s2) (lcmP p1 p2)), n) := by
  have cm := common_ok p1 p2 a1 a2 b1 b2 n
  obtain ⟨P, hP⟩ : ∃ P, P = lcmP p1 p2 := ⟨_, rfl⟩
  obtain ⟨S, hS⟩ : ∃ S, S = max s1 s2 := ⟨_, rfl⟩
  rw [← hP] at cm hL ⊢
  rw [← hS]
  have k1 := marks_ok m1 s1 p1 (S + P) h1 a1 b1 hs1 (by omega) n
  have k2 := marks_ok m2 s2 p2 (S + P) h2 a2 b2 hs2 (by omega) n
  let m : Nat → Bool := fun k => op (m1 k) (m2 k)
  have mx : dMax2 [.int (s1 : Int), .int (s2 : Int)] = some (.int (S : Int)) := by
    show some (D.int (if (s2 : Int) > (s1 : Int) then (s2 : Int) else (s1 : Int))) = _
    congr 2
    split <;> omega
  let R (s3 s4 s5 s6 s7 s8 : Sl) : DL.Env := [.val (fmD m1 s1 p1), .val (fmD m2 s2 p2), .val (.str w), s3, s4, s5, s6, s7, s8, .no, .no]
  have f1 := fm_per m1 s1 p1
  have f2 := fm_per m2 s2 p2
  have f3 := fm_st m1 s1 p1
  have f4 := fm_st m2 s2 p2
  have c5 : ¬ ((5040 : Int) < (P : Int)) := by omega
  have g0 : SF0 (R .no .no .no .no .no .no) n = some (.ok (.nx (R (.val (.int P)) .no .no .no .no .no)), n) := by
    simp only [R]
    unfold SF0
    simp [f1, f2, cm]
  have g1 : SF1 (R (.val (.int P)) .no .no .no .no .no) n = some (.ok (.nx (R (.val (.int P)) .no .no .no .no .no)), n) := by
    simp only [R]
    unfold SF1
    simp [c5]
  have g2 : SF2 (R (.val (.int P)) .no .no .no .no .no) n = some (.ok (.nx (R (.val (.int P)) (.val (.int S)) .no .no .no .no)), n) := by
    simp only [R]
    unfold SF2
    simp [f3, f4, mx]
  have g3 : SF3 (R (.val (.int P)) (.val (.int S)) .no .no .no .no) n = some (.ok (.nx (R (.val (.int P)) (.val (.int S)) (.own (.lst [])) .no .no .no)), n) := rfl
  obtain ⟨t6, t7, r6, r7, er⟩ := zip_run hw (.val (fmD m1 s1 p1)) (.val (fmD m2 s2 p2)) (.val (.int P)) (.val (.int S)) .no .no .no n (((List.range (S + P)).map m1).zip ((List.range (S + P)).map m2)) [] .no .no nO nO (by simp; omega)
  have ez : (((List.range (S + P)).map m1).zip ((List.range (S + P)).map m2)).map (fun p => D.bl (op p.1 p.2)) = (List.range (S + P)).map fun k => D.bl (m k) := by
    rw [List.zip_map', List.map_map]
    rfl
  rw [List.nil_append, ez] at er
  have zz : dZip [encL ((List.range (S + P)).map m1), encL ((List.range (S + P)).map m2)] = some ((((List.range (S + P)).map m1).zip ((List.range (S + P)).map m2)).map fun p : Bool × Bool => D.tup [.bl p.1, .bl p.2]) := by
    rw [← zipB]; rfl
  have iz : ∀ (f : EXs) (ρ : DL.Env) (n : Int), iZipD f ρ n = M.bind (f ρ) (fun ds => M.opt (dZip ds)) n := fun _ _ _ => rfl
  have g4 : SF4 (R (.val (.int P)) (.val (.int S)) (.own (.lst [])) .no .no .no) n = some (.ok (.nx (R (.val (.int P)) (.val (.int S)) (.own (.lst ((List.range (S + P)).map fun k => D.bl (m k)))) t6 t7 .no)), n) := by
    have cs : ((S + P : Nat) : Int) = (S : Int) + (P : Int) := by omega
    rw [cs] at k1 k2
    simp only [R]
    unfold SF4
    generalize ((((List.range (S + P)).map m1).zip ((List.range (S + P)).map m2)).map fun p : Bool × Bool => D.tup [.bl p.1, .bl p.2]) = Z at *
    generalize encL ((List.range (S + P)).map m1) = E1 at *
    generalize encL ((List.range (S + P)).map m2) = E2 at *
    generalize ((List.range (S + P)).map fun k => D.bl (m k)) = A at *
    generalize fmD m1 s1 p1 = F1 at *
    generalize fmD m2 s2 p2 = F2 at *
    simp [k1, k2, iz, zz, er]
  have el : (D.lst ((List.range (S + P)).map fun k => D.bl (m k))) = encL ((List.range (S + P)).map m) := by
    unfold encL
    rw [List.map_map]
    rfl
  have g5 : SF5 (R (.val (.int P)) (.val (.int S)) (.own (.lst ((List.range (S + P)).map fun k => D.bl (m k)))) t6 t7 .no) n = some (.ok (.nx (R (.val (.int P)) (.val (.int S)) (.val (encL ((List.range (S + P)).map m))) t6 t7 .no)), n) := by
    rw [← el]
    rfl
  have get : ∀ k, k < S + P → dIxA (encL ((List.range (S + P)).map m)) (.int (k : Int)) = some (.bl (m k)) := fun k hk => ixL (by simp [hk])
  have x6 := hide_n r6
  have x7 := hide_n r7
  have g6 : SF6 (R (.val (.int P)) (.val (.int S)) (.val (encL ((List.range (S + P)).map m))) t6 t7 .no) n = some (.ok (.nx (R (.val (.int P)) (.val (.int S)) (.val (encL ((List.range (S + P)).map m))) t6 t7 (.val (iT (eN m S))))), n) := by
    have r := rng1 S (by omega)
    have c := comp_filter (fun k : Nat => D.int k) (compB [9] (gV 9) (tTru (e2 dIxA (eVar 5) (eVar 9))) (eVar 9) (R (.val (.int P)) (.val (.int S)) (.val (encL ((List.range (S + P)).map m))) t6 t7 .no)) m n (List.range S) fun k hk => by
      rw [List.mem_range] at hk
      have := get k (by omega)
      generalize encL ((List.range (S + P)).map m) = A at *
      generalize fmD m1 s1 p1 = F1 at *
      generalize fmD m2 s2 p2 = F2 at *
      simp only [R]
      simp [this, x6, x7]
      cases m k <;> rfl
    have z : (((List.range S).filter m).map fun k : Nat => D.int k).length ≤ 16777216 := by have := eN_len m S; unfold eN at this; simp; omega
    have e : iT (eN m S) = .tup (((List.range S).filter m).map fun k : Nat => D.int k) := rfl
    rw [e]
    simp only [R] at c ⊢
    unfold SF6
    generalize ((List.range S).map fun k : Nat => D.int k) = A at *
    generalize (((List.range S).filter m).map fun k : Nat => D.int k) = A2 at *
    generalize encL ((List.range (S + P)).map m) = B at *
    generalize fmD m1 s1 p1 = F1 at *
    generalize fmD m2 s2 p2 = F2 at *
    simp [r, c, mkLst_of z, tupOf]
  have g7 : SF7 (R (.val (.int P)) (.val (.int S)) (.val (encL ((List.range (S + P)).map m))) t6 t7 (.val (iT (eN m S)))) n = some (.ok (.ret (fmD m S P)), n) := by
    have r := rng1 P (by omega)
    have c := comp_filter (fun k : Nat => D.int k) (compB [10] (gV 10) (tTru (e2 dIxA (eVar 5) (e2 dAdd (eVar 4) (eVar 10)))) (eVar 10) (R (.val (.int P)) (.val (.int S)) (.val (encL ((List.range (S + P)).map m))) t6 t7 (.val (iT (eN m S))))) (fun k => m (S + k)) n (List.range P) fun k hk => by
      rw [List.mem_range] at hk
      have := get (S + k) (by omega)
      have cs : ((S + k : Nat) : Int) = (S : Int) + (k : Int) := by omega
      rw [cs] at this
      generalize encL ((List.range (S + P)).map m) = A at *
      generalize fmD m1 s1 p1 = F1 at *
      generalize fmD m2 s2 p2 = F2 at *
      simp only [R]
      simp [this, x6, x7]
      cases m (S + k) <;> rfl
    have z : (((List.range P).filter fun k => m (S + k)).map fun k : Nat => D.int k).length ≤ 16777216 := by have := lN_len m S P; unfold lN at this; simp; omega
    have e : fmD m S P = .tup [iT (eN m S), .int S, .int P, .tup (((List.range P).filter fun k => m (S + k)).map fun k : Nat => D.int k)] := rfl
    rw [e]
    simp only [R] at c ⊢
    unfold SF7
    generalize ((List.range P).map fun k : Nat => D.int k) = A at *
    generalize (((List.range P).filter fun k => m (S + k)).map fun k : Nat => D.int k) = A2 at *
    generalize iT (eN m S) = B2 at *
    generalize encL ((List.range (S + P)).map m) = B at *
    generalize fmD m1 s1 p1 = F1 at *
    generalize fmD m2 s2 p2 = F2 at *
    simp [r, c, mkLst_of z, tupOf]
  have go : SF (R .no .no .no .no .no .no) n = some (.ok (.ret (fmD m S P)), n) := seq_go g0 (seq_go g1 (seq_go g2 (seq_go g3 (seq_go g4 (seq_go g5 (seq_go g6 g7))))))
  show bindR (SF (R .no .no .no .no .no .no) n) runK = _
  rw [go]
  rfl
/-! ### the operators -/
theorem fld_form (m : Nat → Bool) (s p : Nat) : dFld 2 "form" (szD m s p) = some (fmD m s p) := rfl
theorem fld_early (m : Nat → Bool) (s p : Nat) : dFld 2 "early" (szD m s p) = some (iT (eN m s)) := rfl
theorem fld_start (m : Nat → Bool) (s p : Nat) : dFld 2 "start" (szD m s p) = some (.int s) := rfl
theorem fld_period (m : Nat → Bool) (s p : Nat) : dFld 2 "period" (szD m s p) = some (.int p) := rfl
theorem fld_later (m : Nat → Bool) (s p : Nat) : dFld 2 "later" (szD m s p) = some (iT (lN m s p)) := rfl
theorem mk_sz (m : Nat → Bool) (s p : Nat) : makeK 2 (szD m s p) = M.pure (szD m s p) := rfl
theorem gT_fm (g : GXs) (m : Nat → Bool) (s p : Nat) (ρ : DL.Env) : gT g (fmD m s p) ρ = g [iT (eN m s), .int s, .int p, iT (lN m s p)] ρ := rfl
section
variable (m1 m2 : Nat → Bool) (s1 p1 s2 p2 : Nat) (h1 : Ev m1 s1 p1) (h2 : Ev m2 s2 p2) (a1 : 1 ≤ p1) (a2 : 1 ≤ p2) (b1 : p1 ≤ 5040) (b2 : p2 ≤ 5040) (hL : lcmP p1 p2 ≤ 5040) (hs1 : s1 ≤ 10000) (hs2 : s2 ≤ 10000)
include h1 h2 a1 a2 b1 b2 hL hs1 hs2
theorem op_ok {w : Str} {op : Bool → Bool → Bool} (hw : Wop w op) (f : FX) (hf : f = runD 6 2 (sSeq (sAsg (gT (gsC (gV 2) (gsC (gV 3) (gsC (gV 4) (gsC (gV 5) gsN))))) (eCall (f_set_form) (eCons (e1 (dFld 2 "form") (eVar 0)) (eCons (e1 (dFld 2 "form") (eVar 1)) (eCons (eC (.str w)) eNil))))) (sRet (eMake 2 (f_Sizes___init__) (eCons (eVar 2) (eCons (eVar 3) (eCons (eVar 4) (eCons (eVar 5) eNil)))))))) :
    ∃ t q, Least (fun k => op (m1 k) (m2 k)) t q ∧ t ≤ max s1 s2 ∧ q ≤ lcmP p1 p2 ∧ ∀ n, f [szD m1 s1 p1, szD m2 s2 p2] n = some (.ok (szD (fun k => op (m1 k) (m2 k)) t q), n) := by
  have st := set_ok hw m1 m2 s1 p1 s2 p2 h1 h2 a1 a2 b1 b2 hL hs1 hs2
  have e1' := ((h1.mono (Nat.le_max_left s1 s2)).dvd (lcm_dvd1 p1 p2 a1))
  have e2' := ((h2.mono (Nat.le_max_right s1 s2)).dvd (lcm_dvd2 p1 p2))
  obtain ⟨t, q, L, c1, c2, hi⟩ := init_ok (fun k => op (m1 k) (m2 k)) (max s1 s2) (lcmP p1 p2) (Ev.op op e1' e2') (lcm_pos p1 p2 a1 a2) hL (by omega)
  refine ⟨t, q, L, c1, c2, fun n => ?_⟩
  have st := st n
  have hi := hi n
  have ff1 := fld_form m1 s1 p1
  have ff2 := fld_form m2 s2 p2
  have gt := fun g ρ => gT_fm g (fun k => op (m1 k) (m2 k)) (max s1 s2) (lcmP p1 p2) ρ
  have mk' := mk_sz (fun k => op (m1 k) (m2 k)) t q
  subst hf
  generalize szD (fun k => op (m1 k) (m2 k)) t q = Z at *
  generalize fmD (fun k => op (m1 k) (m2 k)) (max s1 s2) (lcmP p1 p2) = Fm at *
  generalize fmD m1 s1 p1 = F1 at *
  generalize fmD m2 s2 p2 = F2 at *
  generalize szD m1 s1 p1 = Z1 at *
  generalize szD m2 s2 p2 = Z2 at *
  simp only [runD_ap, bind_ap]
  simp [ff1, ff2, st, gt, hi, mk']
theorem and_ok : ∃ t q, Least (fun k => m1 k && m2 k) t q ∧ t ≤ max s1 s2 ∧ q ≤ lcmP p1 p2 ∧ ∀ n, f_Sizes___and__ [szD m1 s1 p1, szD m2 s2 p2] n = some (.ok (szD (fun k => m1 k && m2 k) t q), n) := op_ok m1 m2 s1 p1 s2 p2 h1 h2 a1 a2 b1 b2 hL hs1 hs2 w_and _ rfl
theorem or_ok : ∃ t q, Least (fun k => m1 k || m2 k) t q ∧ t ≤ max s1 s2 ∧ q ≤ lcmP p1 p2 ∧ ∀ n, f_Sizes___or__ [szD m1 s1 p1, szD m2 s2 p2] n = some (.ok (szD (fun k => m1 k || m2 k) t q), n) := op_ok m1 m2 s1 p1 s2 p2 h1 h2 a1 a2 b1 b2 hL hs1 hs2 w_or _ rfl
theorem sub_ok : ∃ t q, Least (fun k => m1 k && !m2 k) t q ∧ t ≤ max s1 s2 ∧ q ≤ lcmP p1 p2 ∧ ∀ n, f_Sizes___sub__ [szD m1 s1 p1, szD m2 s2 p2] n = some (.ok (szD (fun k => m1 k && !m2 k) t q), n) := op_ok m1 m2 s1 p1 s2 p2 h1 h2 a1 a2 b1 b2 hL hs1 hs2 w_less _ rfl
end
theorem lcm_one (p : Nat) : lcmP 1 p = p := by unfold lcmP; simp
theorem inv_ok (m : Nat → Bool) (s p : Nat) (h : Ev m s p) (a : 1 ≤ p) (b : p ≤ 5040) (hs : s ≤ 10000) : ∃ t q, Least (fun k => !m k) t q ∧ t ≤ s ∧ q ≤ p ∧ ∀ n, f_Sizes___invert__ [szD m s p] n = some (.ok (szD (fun k => !m k) t q), n) := by
  have h0 : Ev (fun _ => true) 0 1 := fun _ _ => rfl
  have st := set_ok w_less (fun _ => true) m 0 1 s p h0 h (Nat.le_refl _) a (by omega) b (by rw [lcm_one]; exact b) (by omega) hs
  have ee : (fun k => (true && !m k)) = fun k => !m k := by funext k; simp
  have ms : max 0 s = s := by omega
  rw [ee, lcm_one, ms] at st
  have ev : Ev (fun k => !m k) s p := fun n hn => by show (!m (n + p)) = !m n; rw [h n hn]
  obtain ⟨t, q, L, c1, c2, hi⟩ := init_ok (fun k => !m k) s p ev a b hs
  refine ⟨t, q, L, c1, c2, fun n => ?_⟩
  have st := st n
  have hi := hi n
  have ff := fld_form m s p
  have fw : fmD (fun _ => true) 0 1 = .tup [.tup [], .int 0, .int 1, .tup [.int 0]] := rfl
  rw [fw] at st
  have gt := fun g ρ => gT_fm g (fun k => !m k) s p ρ
  have mk' := mk_sz (fun k => !m k) t q
  generalize szD (fun k => !m k) t q = Z at *
  generalize fmD (fun k => !m k) s p = Fm at *
  generalize fmD m s p = F1 at *
  generalize szD m s p = Z1 at *
  simp only [f_Sizes___invert__, g_Sizes___invert__]
  simp only [runD_ap, bind_ap]
  simp [ff, st, gt, hi, mk']
end K36
end

section
set_option Elab.async false
set_option linter.all false
set_option autoImplicit false
set_option maxRecDepth 100000
namespace K36
open DL PySem L2 P_k36_whole_set_identities PyProof.Rows
section
variable (m : Nat → Bool) (t q : Nat) (he : Ev m t q) (hq : 1 ≤ q)
include he hq
theorem has_ok (k : Nat) (n : Int) : f_Sizes___contains__ [szD m t q, .int k] n = some (.ok (.bl (m k)), n) := by
  have f1 := fld_early m t q
  have f2 := fld_start m t q
  have f3 := fld_period m t q
  have f4 := fld_later m t q
  have c : ¬ ((k : Int) < 0) := by omega
  by_cases h : k < t
  · have hI : (k : Int) < (t : Int) := by omega
    have i := in_T (eN m t) k
    rw [mem_eN, decide_eq_true h, Bool.true_and] at i
    have i : dIn (.int k) (iT (eN m t)) = some (.bl (m k)) := i
    generalize szD m t q = Z at *
    generalize iT (eN m t) = A at *
    simp only [f_Sizes___contains__, g_Sizes___contains__]
    simp [is_int, c, f1, f2, hI, h, i]
  · have hI : ¬ (k : Int) < (t : Int) := by omega
    have hm : (k - t) % q < q := Nat.mod_lt _ hq
    have i := in_T (lN m t q) ((k - t) % q)
    rw [mem_lN, decide_eq_true hm, Bool.true_and, ev_at he (by omega)] at i
    have i : dIn (.int (((k - t) % q : Nat) : Int)) (iT (lN m t q)) = some (.bl (m k)) := i
    have dm := dMod_int (i := (k : Int) - (t : Int)) (j := (q : Int)) (by omega)
    have e : ((k : Int) - (t : Int)) % (q : Int) = (((k - t) % q : Nat) : Int) := by
      have : (k : Int) - (t : Int) = ((k - t : Nat) : Int) := by omega
      rw [this]; rfl
    rw [e] at dm
    generalize (k - t) % q = r at *
    generalize szD m t q = Z at *
    generalize iT (lN m t q) = A at *
    simp only [f_Sizes___contains__, g_Sizes___contains__]
    simp [is_int, c, f2, f3, f4, hI, h, dm, i]
omit he hq in
theorem hasno_bl (n : Int) : f_Sizes___contains__ [szD m t q, .bl true] n = some (.ok (.bl false), n) := by
  generalize szD m t q = Z
  kernel_rfl
omit he hq in
theorem hasno_neg (n : Int) : f_Sizes___contains__ [szD m t q, .int (-1)] n = some (.ok (.bl false), n) := by
  generalize szD m t q = Z
  kernel_rfl
omit he hq in
theorem hasno_str (n : Int) : f_Sizes___contains__ [szD m t q, .str "0"] n = some (.ok (.bl false), n) := by
  generalize szD m t q = Z
  kernel_rfl
omit he hq in
theorem hasno_non (n : Int) : f_Sizes___contains__ [szD m t q, .non] n = some (.ok (.bl false), n) := by
  generalize szD m t q = Z
  kernel_rfl
/-! ### the members up to N -/
def mem (m : Nat → Bool) (N : Nat) : List Nat := (List.range N).filter m
omit he hq in
theorem mem_split (N : Nat) (h : t ≤ N) : mem m N = eN m t ++ ((List.range (N - t)).filter fun r => m (t + r)).map (t + ·) := by
  unfold mem eN
  have e : N = t + (N - t) := by omega
  rw [e, List.range_add, List.filter_append, Nat.add_sub_cancel_left, List.filter_map]
  rfl
omit he hq in
theorem tail_split (M : Nat) (h : q ≤ M) : (List.range M).filter (fun r => m (t + r)) = lN m t q ++ ((List.range (M - q)).filter fun r => m (t + (q + r))).map (q + ·) := by
  unfold lN
  have e : M = q + (M - q) := by omega
  rw [e, List.range_add, List.filter_append, Nat.add_sub_cancel_left, List.filter_map]
  rfl
theorem lN_nil (h : lN m t q = []) (k : Nat) (hk : t ≤ k) : m k = false := by
  have hm : (k - t) % q < q := Nat.mod_lt _ hq
  have := mem_lN m t q ((k - t) % q)
  rw [h, decide_eq_true hm, Bool.true_and, ev_at he hk] at this
  simpa using this.symm
theorem mem_fin (h : lN m t q = []) (N : Nat) (hN : t ≤ N) : mem m N = eN m t := by
  rw [mem_split m t N hN]
  have : (List.range (N - t)).filter (fun r => m (t + r)) = [] := by
    rw [List.filter_eq_nil_iff]
    intro r _
    rw [lN_nil m t q he hq h (t + r) (by omega)]
    simp
  rw [this, List.map_nil, List.append_nil]
theorem some_iff (N : Nat) (hN : t + q ≤ N) : (!(eN m t).isEmpty || !(lN m t q).isEmpty) = !(mem m N).isEmpty := by
  rw [mem_split m t N (by omega), tail_split m t q (N - t) (by omega)]
  cases h1 : eN m t with
  | cons a r => simp
  | nil =>
    cases h2 : lN m t q with
    | cons a r => simp
    | nil =>
      have : (List.range (N - t - q)).filter (fun r => m (t + (q + r))) = [] := by
        rw [List.filter_eq_nil_iff]
        intro r _
        rw [lN_nil m t q he hq h2 (t + (q + r)) (by omega)]
        simp
      rw [this]; simp
omit he hq in
theorem boolT (ns : List Nat) : dBoolT [iT ns] = some (.bl (!ns.isEmpty)) := by
  cases ns <;> rfl
omit he hq in
theorem bool_run (n : Int) : f_Sizes___bool__ [szD m t q] n = some (.ok (.bl (!(eN m t).isEmpty || !(lN m t q).isEmpty)), n) := by
  have f1 := fld_early m t q
  have f4 := fld_later m t q
  have b1 := boolT (eN m t)
  have b2 := boolT (lN m t q)
  generalize szD m t q = Z at *
  generalize iT (eN m t) = A at *
  generalize iT (lN m t q) = B at *
  generalize (eN m t).isEmpty = e1 at *
  generalize (lN m t q).isEmpty = e2 at *
  simp only [f_Sizes___bool__, g_Sizes___bool__]
  cases e1 <;> cases e2 <;> simp [f1, f4, b1, b2]
theorem bool_ok (N : Nat) (hN : t + q ≤ N) (n : Int) : f_Sizes___bool__ [szD m t q] n = some (.ok (.bl (!(mem m N).isEmpty)), n) := by
  rw [bool_run, some_iff m t q he hq N hN]
omit he hq in
theorem ne_nil (ns : List Nat) : dNe (iT ns) (.tup []) = some (.bl (!decide (ns = []))) := dNe_T ns []
omit he hq in
theorem many_run (n : Int) : f_Sizes_many [szD m t q] n = some (.ok (if lN m t q = [] then .int (eN m t).length else .non), n) := by
  have f1 := fld_early m t q
  have f4 := fld_later m t q
  have b := ne_nil (lN m t q)
  have l : dLen [iT (eN m t)] = some (.int (eN m t).length) := dLen_T (eN m t)
  generalize szD m t q = Z at *
  generalize (eN m t).length = L at *
  generalize iT (eN m t) = A at *
  generalize iT (lN m t q) = B at *
  simp only [f_Sizes_many, g_Sizes_many]
  by_cases h : lN m t q = []
  · simp [h] at b
    simp [f1, f4, b, h, l]
  · simp [h] at b
    simp [f1, f4, b, h]
omit he hq in
theorem hd_iT (a : Nat) (r : List Nat) : dIx (iT (a :: r)) (.int 0) = some (.int a) := by
  show atI ((a :: r).map PyE.enc) ((0 : Nat) : Int) = _
  exact atI_nat rfl
def optD : Option Nat → D
  | some k => .int k
  | none => .non
theorem least_run (N : Nat) (hN : t + q ≤ N) (n : Int) : f_Sizes_least [szD m t q] n = some (.ok (optD (mem m N).head?), n) := by
  have f1 := fld_early m t q
  have f2 := fld_start m t q
  have f4 := fld_later m t q
  have b1 := ne_nil (eN m t)
  have b2 := ne_nil (lN m t q)
  have M := mem_split m t N (by omega)
  rw [tail_split m t q (N - t) (by omega)] at M
  cases h1 : eN m t with
  | cons a r =>
    rw [h1] at M b1 f1
    have hd := hd_iT a r
    have hh : (mem m N).head? = some a := by rw [M]; rfl
    rw [hh]
    simp at b1
    generalize iT (a :: r) = A at *
    generalize szD m t q = Z at *
    simp only [f_Sizes_least, g_Sizes_least]
    simp [f1, b1, hd, optD]
  | nil =>
    rw [h1] at M b1 f1
    simp at b1
    cases h2 : lN m t q with
    | cons a r =>
      rw [h2] at M b2 f4
      have hd := hd_iT a r
      have hh : (mem m N).head? = some (t + a) := by rw [M]; rfl
      rw [hh]
      simp at b2
      generalize iT (a :: r) = A at *
      generalize iT [] = A0 at *
      generalize szD m t q = Z at *
      simp only [f_Sizes_least, g_Sizes_least]
      simp [f1, f2, f4, b1, b2, hd, optD]
    | nil =>
      rw [h2] at b2 f4
      have hh : mem m N = [] := by rw [mem_fin m t q he hq h2 N (by omega), h1]
      rw [hh]
      simp at b2
      generalize iT [] = A0 at *
      generalize szD m t q = Z at *
      simp only [f_Sizes_least, g_Sizes_least]
      simp [f1, f4, b1, b2, optD]
end
/-! ### equality -/
inductive El where
  | t (x : List Nat)
  | i (n : Nat)
  deriving DecidableEq
instance : PyE El where
  enc := fun e => match e with | .t x => iT x | .i n => .int n
  py := fun e => match e with | .t x => .tuple (x.map PyE.py) | .i n => .int n
  to := fun e => match e with
    | .t x => by
      show toPy (.tup (x.map PyE.enc)) = _
      unfold toPy
      rw [PyE.toAll]
    | .i n => by simp [toPy]
  lay := fun e => match e with
    | .t x => by
      unfold PyData.canLay0
      exact PyE.layAll x
    | .i n => by simp [PyData.canLay0]
  dep := fun e => match e with
    | .t x => by
      unfold PyData.depth
      have : PyData.depthAll (x.map fun k => (PyE.py k : PyData)) ≤ 0 := by
        induction x with
        | nil => simp [PyData.depthAll]
        | cons a r ih =>
          rw [List.map_cons]
          unfold PyData.depthAll
          have : (PyE.py a : PyData).depth = 0 := by
            show (PyData.int a).depth = 0
            simp [PyData.depth]
          omega
      have h : PyData.depthAll (x.map PyE.py) ≤ 0 := this
      omega
    | .i n => by simp [PyData.depth]
  eqv := fun a b => match a, b with
    | .t x, .t y => by
      unfold PyData.eqv
      rw [PyE.eqvAll x y]
      exact ⟨fun e => by rw [e], fun e => by injection e⟩
    | .i x, .i y => by simp [PyData.eqv]; omega
    | .t x, .i y => ⟨fun e => by simp [PyData.eqv] at e, fun e => by injection e⟩
    | .i x, .t y => ⟨fun e => by simp [PyData.eqv] at e, fun e => by injection e⟩
theorem fm_enc (m : Nat → Bool) (s p : Nat) : fmD m s p = encT (α := El) [.t (eN m s), .i s, .i p, .t (lN m s p)] := rfl
theorem fm_eq (m1 m2 : Nat → Bool) (t1 q1 t2 q2 : Nat) (h1 : Least m1 t1 q1) (h2 : Least m2 t2 q2) [Decidable (m1 = m2)] : dEq (fmD m1 t1 q1) (fmD m2 t2 q2) = some (.bl (decide (m1 = m2))) := by
  rw [fm_enc, fm_enc, dEq_T]
  congr 2
  apply decide_eq_decide.mpr
  constructor
  · intro e
    simp only [List.cons.injEq, El.t.injEq, El.i.injEq, and_true] at e
    obtain ⟨e1, rfl, rfl, e4⟩ := e
    funext k
    by_cases h : k < t1
    · have a := mem_eN m1 t1 k
      have b := mem_eN m2 t1 k
      rw [e1, b, decide_eq_true h, Bool.true_and, Bool.true_and] at a
      exact a.symm
    · have hm : (k - t1) % q1 < q1 := Nat.mod_lt _ h1.pos
      have a := mem_lN m1 t1 q1 ((k - t1) % q1)
      have b := mem_lN m2 t1 q1 ((k - t1) % q1)
      rw [e4, b, decide_eq_true hm, Bool.true_and, Bool.true_and, ev_at h1.ev (by omega), ev_at h2.ev (by omega)] at a
      exact a.symm
  · rintro rfl
    obtain ⟨rfl, rfl⟩ := h1.uniq h2
    rfl
theorem isO_sz (m : Nat → Bool) (t q : Nat) : dIsO is2 (szD m t q) = some (.bl true) := rfl
theorem eq_ok (m1 m2 : Nat → Bool) (t1 q1 t2 q2 : Nat) (h1 : Least m1 t1 q1) (h2 : Least m2 t2 q2) [Decidable (m1 = m2)] (n : Int) : f_Sizes___eq__ [szD m1 t1 q1, szD m2 t2 q2] n = some (.ok (.bl (decide (m1 = m2))), n) := by
  have e := fm_eq m1 m2 t1 q1 t2 q2 h1 h2
  have f1 := fld_form m1 t1 q1
  have f2 := fld_form m2 t2 q2
  have i := isO_sz m2 t2 q2
  generalize decide (m1 = m2) = B at *
  generalize fmD m1 t1 q1 = F1 at *
  generalize fmD m2 t2 q2 = F2 at *
  generalize szD m1 t1 q1 = Z1 at *
  generalize szD m2 t2 q2 = Z2 at *
  simp only [f_Sizes___eq__, g_Sizes___eq__]
  simp [i, f1, f2, e]
end K36
end

section
set_option Elab.async false
set_option linter.all false
set_option autoImplicit false
set_option maxRecDepth 100000
namespace K36
open DL PySem L2 P_k36_whole_set_identities PyProof.Rows
/-! ### the first so many -/
def sq (m : Nat → Bool) (t q : Nat) (i : Nat) : Nat := t + (i / (lN m t q).length) * q + (lN m t q).getD (i % (lN m t q).length) 0
def seqN (m : Nat → Bool) (t q M : Nat) : List Nat := eN m t ++ (List.range M).map (sq m t q)
section
variable (m : Nat → Bool) (t q : Nat) (he : Ev m t q) (hq : 1 ≤ q)
include he hq
theorem mem_seq (hl : lN m t q ≠ []) : ∀ j : Nat, mem m (t + j * q) = seqN m t q (j * (lN m t q).length)
  | 0 => by simp [mem, seqN, eN]
  | j + 1 => by
    have ih := mem_seq hl j
    have L0 : 0 < (lN m t q).length := List.length_pos_iff.mpr hl
    have e : t + (j + 1) * q = (t + j * q) + q := by rw [Nat.succ_mul]; omega
    have e2 : (j + 1) * (lN m t q).length = j * (lN m t q).length + (lN m t q).length := Nat.succ_mul _ _
    unfold mem at ih ⊢
    rw [e, List.range_add, List.filter_append, ih]
    unfold seqN
    rw [e2, List.range_add, List.map_append, ← List.append_assoc]
    congr 1
    rw [List.filter_map]
    have f : (List.range q).filter (m ∘ fun x => t + j * q + x) = lN m t q := by
      unfold lN
      apply List.filter_congr
      intro x _
      show m (t + j * q + x) = m (t + x)
      have := he.mul j (t + x) (by omega)
      rw [← this]
      congr 1; omega
    rw [f, List.map_map]
    apply List.ext_getElem?
    intro i
    rw [List.getElem?_map, List.getElem?_map]
    by_cases h : i < (lN m t q).length
    · rw [List.getElem?_range h, List.getElem?_eq_getElem h]
      show some (t + j * q + (lN m t q)[i]) = some (sq m t q (j * (lN m t q).length + i))
      unfold sq
      have d1 : (j * (lN m t q).length + i) / (lN m t q).length = j := by
        rw [Nat.add_comm, Nat.add_mul_div_right _ _ L0, Nat.div_eq_of_lt h]; omega
      have d2 : (j * (lN m t q).length + i) % (lN m t q).length = i := by
        rw [Nat.add_comm, Nat.add_mul_mod_self_right, Nat.mod_eq_of_lt h]
      rw [d1, d2, List.getD_eq_getElem?_getD, List.getElem?_eq_getElem h]
      rfl
    · rw [List.getElem?_eq_none (by omega), List.getElem?_eq_none (by simp; omega)]
      rfl
theorem take_seq (hl : lN m t q ≠ []) (c N : Nat) (hN : t + c * q ≤ N) : (mem m N).take c = (eN m t).take c ++ (List.range (c - (eN m t).length)).map (sq m t q) := by
  have L0 : 0 < (lN m t q).length := List.length_pos_iff.mpr hl
  have e : N = (t + c * q) + (N - (t + c * q)) := by omega
  have s : mem m N = mem m (t + c * q) ++ (((List.range (N - (t + c * q))).map fun x => t + c * q + x).filter m) := by
    unfold mem
    rw [← List.filter_append, ← List.range_add, ← e]
  have g : c ≤ c * (lN m t q).length := Nat.le_mul_of_pos_right c L0
  rw [s, mem_seq m t q he hq hl, List.take_append_of_le_length (by unfold seqN; simp; omega)]
  unfold seqN
  rw [List.take_append, ← List.map_take, List.take_range, Nat.min_eq_left (by omega)]
omit he hq in
theorem ix_lN (i : Nat) (h : i < (lN m t q).length) : dIxA (iT (lN m t q)) (.int (i : Int)) = some (.int ((lN m t q).getD i 0 : Nat)) := by
  have := ixT' (xs := lN m t q) (j := i) (x := (lN m t q).getD i 0) (by rw [List.getD_eq_getElem?_getD, List.getElem?_eq_getElem h]; rfl)
  exact this
def FW : SX := (sSeq (sApp 2 (e2 dAdd (e2 dAdd (e1 (dFld 2 "start") (eVar 0)) (e2 dMul (e2 dDiv (eVar 3) (eB dLen (eCons (e1 (dFld 2 "later") (eVar 0)) eNil))) (e1 (dFld 2 "period") (eVar 0)))) (e2 dIxA (e1 (dFld 2 "later") (eVar 0)) (e2 dMod (eVar 3) (eB dLen (eCons (e1 (dFld 2 "later") (eVar 0)) eNil))))))
  (sAug 3 (dI (fun _ _ => true) fun a b => .int (a + b)) (eC (.int 1))))
def FT : TX := (tAndD (tB (e2 dLt (eOwnLen 2) (eVar 1))) (tB (e2 dNe (e1 (dFld 2 "later") (eVar 0)) (eTup eNil))))
omit he hq in
theorem fw_step (hq1 : q ≤ 100000) (acc : List D) (h : acc.length < 16777216) (hl : lN m t q ≠ []) (i c : Nat) (n : Int) : FW [.val (szD m t q), .val (.int c), .own (.lst acc), .val (.int i)] n = some (.ok (.nx [.val (szD m t q), .val (.int c), .own (.lst (acc ++ [.int (sq m t q i)])), .val (.int ((i + 1 : Nat) : Int))]), n) := by
  have f2 := fld_start m t q
  have f3 := fld_period m t q
  have f4 := fld_later m t q
  have L0 : 0 < (lN m t q).length := List.length_pos_iff.mpr hl
  have LI : (0 : Int) < ((lN m t q).length : Int) := by omega
  have L1 := lN_len m t q
  have l : dLen [iT (lN m t q)] = some (.int (lN m t q).length) := dLen_T (lN m t q)
  have dd := dDiv_int (i := (i : Int)) LI (by omega)
  have dm := dMod_int (i := (i : Int)) LI
  have mu := dMul_int (i := (i : Int) / ((lN m t q).length : Int)) (j := (q : Int)) (.inr (small64_of (by omega) (by omega)))
  have ix := ix_lN m t q (i % (lN m t q).length) (Nat.mod_lt _ L0)
  have cm : ((i % (lN m t q).length : Nat) : Int) = (i : Int) % ((lN m t q).length : Int) := by simp
  rw [cm] at ix
  have u := fun d => uApp_ok d acc h
  have es : (t : Int) + (i : Int) / ((lN m t q).length : Int) * (q : Int) + ((lN m t q).getD (i % (lN m t q).length) 0 : Nat) = ((sq m t q i : Nat) : Int) := by
    unfold sq
    simp
  have ci : dI (fun _ _ => true) (fun a b => D.int (a + b)) (.int (i : Int)) (.int 1) = some (.int ((i + 1 : Nat) : Int)) := rfl
  generalize sq m t q i = SQ at *
  generalize (lN m t q).getD (i % (lN m t q).length) 0 = G at *
  generalize (lN m t q).length = LL at *
  generalize iT (lN m t q) = A at *
  generalize szD m t q = Z at *
  unfold FW
  simp [f2, f3, f4, l, dd, dm, mu, ix, u, es, ci]
omit he hq in
theorem ft_run (acc : List D) (i c : Nat) (n : Int) : FT [.val (szD m t q), .val (.int c), .own (.lst acc), .val (.int i)] n = some (.ok (decide (acc.length < c) && !decide (lN m t q = [])), n) := by
  have f4 := fld_later m t q
  have b := ne_nil (lN m t q)
  have ol : ∀ (a b : Sl) (n : Int), eOwnLen 2 [a, b, .own (.lst acc), .val (.int i)] n = some (.ok (.int acc.length), n) := fun _ _ _ => rfl
  have dc : decide ((acc.length : Int) < (c : Int)) = decide (acc.length < c) := decide_eq_decide.mpr (by omega)
  generalize iT (lN m t q) = A at *
  generalize szD m t q = Z at *
  generalize decide (lN m t q = []) = B at *
  unfold FT
  by_cases h : acc.length < c
  · simp [ol, h, f4, b]
  · simp [ol, h]
omit he hq in
theorem fw_loop (hq1 : q ≤ 100000) (hl : lN m t q ≠ []) (c : Nat) (hc : c ≤ 1000) (acc0 : List D) (n : Int) : ∀ (d i f : Nat), acc0.length + i + d = c → d < f → whileD FT FW f [.val (szD m t q), .val (.int c), .own (.lst (acc0 ++ (List.range i).map fun k : Nat => D.int (sq m t q k))), .val (.int i)] n = some (.ok (.nx [.val (szD m t q), .val (.int c), .own (.lst (acc0 ++ (List.range (i + d)).map fun k : Nat => D.int (sq m t q k))), .val (.int ((i + d : Nat) : Int))]), n)
  | 0, i, f, h, hf => by
    obtain ⟨f, rfl⟩ : ∃ g, f = g + 1 := ⟨f - 1, by omega⟩
    rw [whileD_s, bind_ap, ft_run]
    have : ¬ (acc0 ++ (List.range i).map fun k : Nat => D.int (sq m t q k)).length < c := by simp; omega
    rw [decide_eq_false this]
    rfl
  | d + 1, i, f, h, hf => by
    obtain ⟨f, rfl⟩ : ∃ g, f = g + 1 := ⟨f - 1, by omega⟩
    have hlen : (acc0 ++ (List.range i).map fun k : Nat => D.int (sq m t q k)).length < c := by simp; omega
    have ih := fw_loop hq1 hl c hc acc0 n d (i + 1) f (by omega) (by omega)
    rw [whileD_s, bind_ap, ft_run, decide_eq_true hlen, decide_eq_false hl, bindR_ok]
    show bindR (FW _ n) _ = _
    rw [fw_step m t q hq1 _ (by omega) hl i c n, bindR_ok, turnK_nx]
    have e1 : (acc0 ++ (List.range i).map fun k : Nat => D.int (sq m t q k)) ++ [D.int (sq m t q i)] = acc0 ++ (List.range (i + 1)).map fun k : Nat => D.int (sq m t q k) := by
      rw [List.range_succ, List.map_append, List.append_assoc]; rfl
    have e2 : i + (d + 1) = i + 1 + d := by omega
    rw [e1, e2]
    exact ih
omit he hq in
theorem cut_own (c : Nat) (ρ : DL.Env) (n : Int) (f1 : (e1 (dFld 2 "early") (eVar 0)) ρ n = some (.ok (iT (eN m t)), n)) (f2 : eVar 1 ρ n = some (.ok (.int (c : Int)), n)) : nCut (eB dLstA (eCons (e1 (dFld 2 "early") (eVar 0)) eNil)) oNone (oSome (eVar 1)) ρ n = some (.ok (((eN m t).take c).map fun k : Nat => D.int k), n) := by
  have z := cutL_to (eN m t) c
  have la : dLstA [iT (eN m t)] = some (encL (eN m t)) := rfl
  have : dCut (encL (eN m t)) none (some (c : Int)) = some (.lst (DL.cutD ((eN m t).map PyE.enc) none (some (c : Int)))) := rfl
  rw [this] at z
  injection z with z
  injection z with z
  have lk : cutK none (some (c : Int)) (encL (eN m t)) = some (((eN m t).take c).map fun k : Nat => D.int k) := congrArg some z
  generalize iT (eN m t) = A at *
  generalize encL (eN m t) = B at *
  generalize (((eN m t).take c).map fun k : Nat => D.int k) = C at *
  rw [nCut_ap, bind_ap, eB_ap, bind_ap, eCons_ap, bind_ap, f1]
  simp only [bindR_ok, bind_ap, eNil_ap, pure_ap, la, opt_some, oNone_ap, oSome_ap, f2, intK_int, lk]
theorem first_ok (hq1 : q ≤ 100000) (c : Nat) (hc : c ≤ 1000) (N : Nat) (hN : t + c * q ≤ N) (n : Int) (hf : lN m t q = [] → t ≤ N) : f_Sizes_first [szD m t q, .int c] n = some (.ok (encL ((mem m N).take c)), n) := by
  have f1 := fld_early m t q
  have la : (e1 (dFld 2 "early") (eVar 0)) [.val (szD m t q), .val (.int c), .no, .no] n = some (.ok (iT (eN m t)), n) := by
    generalize szD m t q = Z at *
    simp [f1]
  have cu := cut_own m t c [.val (szD m t q), .val (.int c), .no, .no] n la rfl
  have w : whileD FT FW 1000000 [.val (szD m t q), .val (.int c), .own (.lst (((eN m t).take c).map fun k : Nat => D.int k)), .val (.int 0)] n = some (.ok (.nx [.val (szD m t q), .val (.int c), .own (encL ((mem m N).take c)), .val (.int (if lN m t q = [] then 0 else ((c - (eN m t).length : Nat) : Int)))]), n) := by
    by_cases hl : lN m t q = []
    · rw [show (1000000 : Nat) = 999999 + 1 from rfl, whileD_s, bind_ap]
      have ft := ft_run m t q (((eN m t).take c).map fun k : Nat => D.int k) 0 c n
      rw [decide_eq_true hl, Bool.not_true, Bool.and_false] at ft
      rw [show (0 : Int) = ((0 : Nat) : Int) from rfl, ft, bindR_ok, selB_false, pure_ap, if_pos hl, mem_fin m t q he hq hl N (by omega)]
      rfl
    · have lp := fw_loop m t q hq1 hl c hc (((eN m t).take c).map fun k : Nat => D.int k) n (c - (eN m t).length) 0 1000000 (by simp; omega) (by omega)
      rw [take_seq m t q he hq hl c N hN, if_neg hl]
      have e : encL ((eN m t).take c ++ (List.range (c - (eN m t).length)).map (sq m t q)) = D.lst (((eN m t).take c).map (fun k : Nat => D.int k) ++ (List.range (0 + (c - (eN m t).length))).map fun k : Nat => D.int (sq m t q k)) := by
        unfold encL
        rw [List.map_append, List.map_map, Nat.zero_add]
        rfl
      rw [e]
      rw [List.range_zero, List.map_nil, List.append_nil, Nat.zero_add] at lp
      rw [Nat.zero_add]
      exact lp
  show bindR (g_Sizes_first [.val (szD m t q), .val (.int c), .no, .no] n) runK = _
  have go : g_Sizes_first [.val (szD m t q), .val (.int c), .no, .no] n = some (.ok (.ret (encL ((mem m N).take c))), n) := by
    unfold g_Sizes_first
    refine seq_go (ρ1 := [.val (szD m t q), .val (.int c), .own (.lst (((eN m t).take c).map fun k : Nat => D.int k)), .no]) (n1 := n) ?_ ?_
    · rw [sOwnN_ap, bind_ap, cu]
      rfl
    refine seq_go (ρ1 := [.val (szD m t q), .val (.int c), .own (.lst (((eN m t).take c).map fun k : Nat => D.int k)), .val (.int 0)]) (n1 := n) rfl ?_
    refine seq_go (ρ1 := [.val (szD m t q), .val (.int c), .own (encL ((mem m N).take c)), .val (.int (if lN m t q = [] then 0 else ((c - (eN m t).length : Nat) : Int)))]) (n1 := n) ?_ ?_
    · rw [sWhile_ap]
      exact w
    · rfl
  rw [go]
  rfl
end
theorem inside_iff (m1 m2 : Nat → Bool) (N : Nat) : (mem (fun k => m1 k && !m2 k) N).isEmpty = (List.range N).all fun k => m2 k || !m1 k := by
  unfold mem
  rw [Bool.eq_iff_iff, List.isEmpty_iff, List.filter_eq_nil_iff, List.all_eq_true]
  refine forall_congr' fun x => forall_congr' fun hx => ?_
  cases m1 x <;> cases m2 x <;> simp
theorem within_ok (m1 m2 : Nat → Bool) (s1 p1 s2 p2 : Nat) (h1 : Ev m1 s1 p1) (h2 : Ev m2 s2 p2) (a1 : 1 ≤ p1) (a2 : 1 ≤ p2) (b1 : p1 ≤ 5040) (b2 : p2 ≤ 5040) (hL : lcmP p1 p2 ≤ 5040) (hs1 : s1 ≤ 10000) (hs2 : s2 ≤ 10000) (N : Nat) (hN : max s1 s2 + lcmP p1 p2 ≤ N) (n : Int) :
    f_Sizes_within [szD m1 s1 p1, szD m2 s2 p2] n = some (.ok (.bl ((List.range N).all fun k => m2 k || !m1 k)), n) := by
  obtain ⟨t, q, L, c1, c2, e⟩ := sub_ok m1 m2 s1 p1 s2 p2 h1 h2 a1 a2 b1 b2 hL hs1 hs2
  have b := bool_ok (fun k => m1 k && !m2 k) t q L.ev L.pos N (by omega) n
  rw [inside_iff] at b
  have e := e n
  have i1 : isC 2 (szD m1 s1 p1) = true := rfl
  have i2 : isC 2 (szD m2 s2 p2) = true := rfl
  have i3 : isC 2 (szD (fun k => m1 k && !m2 k) t q) = true := rfl
  generalize ((List.range N).all fun k => m2 k || !m1 k) = B at *
  generalize szD (fun k => m1 k && !m2 k) t q = Z at *
  generalize szD m1 s1 p1 = Z1 at *
  generalize szD m2 s2 p2 = Z2 at *
  simp only [f_Sizes_within, g_Sizes_within]
  simp [i1, i2, i3, e, b]
end K36
end

section
set_option Elab.async false
set_option linter.all false
set_option autoImplicit false
set_option maxRecDepth 100000
namespace K36
open DL PySem L2 P_k36_whole_set_identities PyProof.Rows
theorem atI_in {α : Type} (xs : List α) (j : Int) (h0 : 0 ≤ j) (h1 : j < xs.length) : ∃ x, atI xs j = some x := by
  obtain ⟨k, rfl⟩ : ∃ k : Nat, j = (k : Int) := ⟨j.toNat, by omega⟩
  have : k < xs.length := by omega
  exact ⟨xs[k], atI_nat (by simp [this])⟩
theorem mul_r (i j : Int) (h : -1000000 ≤ j) (h2 : j ≤ 1000000) : dMul (.int i) (.int j) = some (.int (i * j)) := dMul_int (.inr (small64_of h h2))
theorem mul_l (i j : Int) (h : -1000000 ≤ i) (h2 : i ≤ 1000000) : dMul (.int i) (.int j) = some (.int (i * j)) := dMul_int (.inl (small64_of h h2))
theorem number_ok (W : Wd) (i n : Int) : ∃ v : Int, f__law_number W [.scr, .int i] n = some (.ok (.int v), n) := by
  have m1 := fun x => mul_r x 48271 (by omega) (by omega)
  have m2 := fun x => mul_r x 69621 (by omega) (by omega)
  have m3 := fun x => mul_r x 16807 (by omega) (by omega)
  have m4 := fun x => mul_l 977 x (by omega) (by omega)
  have m5 := fun x => mul_l 31 x (by omega) (by omega)
  have d1 := fun x => dMod_int (i := x) (j := 2147483647) (by omega)
  have d2 := fun x => dMod_int (i := x) (j := 2147483629) (by omega)
  have d3 := fun x => dMod_int (i := x) (j := 2147483587) (by omega)
  have nil : dScrNil W .scr (.lst []) = some (.bl W.ns.isEmpty) := rfl
  have len : dLenS W [.scr] = some (.int W.ns.length) := rfl
  have int : ∀ x, dInt [.int x] = some (.int x) := fun _ => rfl
  cases he : W.ns.isEmpty with
  | true =>
    rw [he] at nil
    simp only [f__law_number, g__law_number]
    simp [nil, m1, d1, int]
  | false =>
    rw [he] at nil
    have hl : 0 < W.ns.length := by
      cases hn : W.ns with
      | nil => rw [hn] at he; cases he
      | cons a b => simp
    have hl' : (0 : Int) < (W.ns.length : Int) := by omega
    have d0 := fun x => dMod_int (i := x) (j := (W.ns.length : Int)) hl'
    obtain ⟨x, hx⟩ := atI_in W.ns (i % (W.ns.length : Int)) (Int.emod_nonneg _ (by omega)) (Int.emod_lt_of_pos _ hl')
    have ix : dIxS W .scr (.int (i % (W.ns.length : Int))) = some (.int x) := by
      show (atI W.ns _).map D.int = _
      rw [hx]; rfl
    obtain ⟨p60, e60⟩ : ∃ p60 : Int, dPow (.int 10) (.int 60) = some (.int p60) := ⟨_, rfl⟩
    have e18 : dPow (.int 10) (.int 18) = some (.int 1000000000000000000) := rfl
    have d18 := fun x => dMod_int (i := x) (j := 1000000000000000000) (by omega)
    have ab : dAbs [.int x] = some (.int (if x < 0 then -x else x)) := rfl
    obtain ⟨y, hy⟩ : ∃ y, y = (if x < 0 then -x else x) := ⟨_, rfl⟩
    rw [← hy] at ab
    simp only [f__law_number, g__law_number]
    by_cases hb : p60 ≤ y
    · simp [nil, len, d0, ix, ab, e60, hb, e18, d18, m4, m1, m5, d1, m2, d2, m3, d3, int]
    · simp [nil, len, d0, ix, ab, e60, hb, m4, m1, m5, d1, m2, d2, m3, d3, int]
theorem take_ok (W : Wd) (m n : Int) (h : 0 < m) : ∃ v : Int, 0 ≤ v ∧ v < m ∧ f__law_take W [.drw, .int m] n = some (.ok (.int v), n + 1) := by
  obtain ⟨v, hv⟩ := number_ok W (n + 1) (n + 1)
  refine ⟨v % m, Int.emod_nonneg _ (by omega), Int.emod_lt_of_pos _ h, ?_⟩
  have int : ∀ x, dInt [.int x] = some (.int x) := fun _ => rfl
  have s1 : ∀ n, sDrw (eVar 0) [.val .drw, .val (.int m)] n = some (.ok (.nx [.val .drw, .val (.int m)]), n + 1) := fun n => rfl
  have s2 : ∀ n, eDrw0 (eVar 0) [.val .drw, .val (.int m)] n = some (.ok .scr, n) := fun n => rfl
  have s3 : ∀ n, eDrw1 (eVar 0) [.val .drw, .val (.int m)] n = some (.ok (.int n), n) := fun n => rfl
  simp only [f__law_take, g__law_take]
  simp [s1, s2, s3, int, hv, dMod_int h]

theorem ixA_lst (ds : List D) (i : Int) : dIxA (.lst ds) (.int i) = atI ds i := rfl
theorem pick_ok (W : Wd) (ds : List D) (h : ds ≠ []) (n : Int) : ∃ d ∈ ds, f__law_pick W [.drw, .lst ds] n = some (.ok d, n + 1) := by
  have hl : 0 < ds.length := List.length_pos_iff.mpr h
  obtain ⟨v, h0, h1, hv⟩ := take_ok W ds.length n (by omega)
  obtain ⟨k, rfl⟩ : ∃ k : Nat, v = (k : Int) := ⟨v.toNat, by omega⟩
  have hk : k < ds.length := by omega
  have ix : dIxA (.lst ds) (.int (k : Int)) = some ds[k] := (ixA_lst ds k).trans (atI_nat (by simp [hk]))
  refine ⟨ds[k], List.getElem_mem hk, ?_⟩
  simp only [f__law_pick, g__law_pick]
  simp [hv, ix]

/-! ### a drawn set -/
theorem comp_draw (b : D → M (Option D)) : ∀ (w : List Nat) (n : Int), w.Nodup → (∀ k ∈ w, ∀ n, ∃ c : Bool, ∃ n', b (.int (k : Int)) n = some (.ok (if c then some (.int (k : Int)) else none), n')) → ∃ f : Nat → Bool, ∃ n', compD b (w.map fun k : Nat => D.int k) n = some (.ok ((w.filter f).map fun k : Nat => D.int k), n')
  | [], n, _, _ => ⟨fun _ => true, n, rfl⟩
  | a :: w, n, hn, h => by
    rw [List.nodup_cons] at hn
    obtain ⟨c, n1, h1⟩ := h a List.mem_cons_self n
    obtain ⟨f, n2, h2⟩ := comp_draw b w n1 hn.2 fun k hk => h k (List.mem_cons_of_mem _ hk)
    refine ⟨fun k => if k = a then c else f k, n2, ?_⟩
    have e : w.filter (fun k => if k = a then c else f k) = w.filter f := List.filter_congr fun x hx => by
      have : x ≠ a := fun e => hn.1 (e ▸ hx)
      rw [if_neg this]
    rw [List.map_cons, compD_cons, List.filter_cons, if_pos rfl, e]
    simp only [bind_ap, h1, bindR_ok, h2, pure_ap]
    cases c <;> rfl
/-! ### the sets that the law draws: periods that divide 60, starts up to 40 -/
def G (m : Nat → Bool) : Prop := Ev m 40 60
open Classical in
noncomputable def sz (m : Nat → Bool) : D := if h : ∃ p : Nat × Nat, Least m p.1 p.2 then szD m h.choose.1 h.choose.2 else .non
theorem sz_eq {m : Nat → Bool} {t q : Nat} (L : Least m t q) : sz m = szD m t q := by
  have h : ∃ p : Nat × Nat, Least m p.1 p.2 := ⟨(t, q), L⟩
  unfold sz
  rw [dif_pos h]
  obtain ⟨e1, e2⟩ := h.choose_spec.uniq L
  rw [e1, e2]
theorem G.fit {m : Nat → Bool} (g : G m) {t q : Nat} (L : Least m t q) : t ≤ 40 ∧ q ∣ 60 := by
  have h1 : Ev m 40 q := Ev.down g (by omega) L.ev
  refine ⟨L.mins _ h1, ?_⟩
  have h2 : Ev m 40 (Nat.gcd q 60) := h1.gcd g
  have h3 := L.minp _ _ (Nat.gcd_pos_of_pos_left _ L.pos) h2
  have h4 := Nat.le_of_dvd L.pos (Nat.gcd_dvd_left q 60)
  have h5 : Nat.gcd q 60 = q := by omega
  rw [← h5]
  exact Nat.gcd_dvd_right q 60
theorem G.form {m : Nat → Bool} (g : G m) : ∃ t q, Least m t q ∧ t ≤ 40 ∧ q ∣ 60 ∧ 1 ≤ q ∧ q ≤ 60 ∧ sz m = szD m t q := by
  obtain ⟨t, q, L, _⟩ := form_ok m 40 60 g (by omega) (by omega) (by omega)
  obtain ⟨h1, h2⟩ := g.fit L
  exact ⟨t, q, L, h1, h2, L.pos, Nat.le_of_dvd (by omega) h2, sz_eq L⟩
theorem lcmP_eq (a b : Nat) (ha : 1 ≤ a) : lcmP a b = Nat.lcm a b := by
  have hg : 0 < Nat.gcd a b := Nat.gcd_pos_of_pos_left _ ha
  obtain ⟨c, hc⟩ := Nat.gcd_dvd_left a b
  have e1 : a / Nat.gcd a b = c := by rw [Nat.div_eq_iff_eq_mul_right hg (Nat.gcd_dvd_left a b)]; exact hc
  have e2 : a * b / Nat.gcd a b = c * b := by
    rw [Nat.div_eq_iff_eq_mul_right hg (Nat.dvd_trans (Nat.gcd_dvd_left a b) (Nat.dvd_mul_right a b)), ← Nat.mul_assoc, ← hc]
  unfold lcmP Nat.lcm
  rw [e1, e2]
theorem lcm60 {a b : Nat} (ha : 1 ≤ a) (h1 : a ∣ 60) (h2 : b ∣ 60) : lcmP a b ≤ 60 := by
  rw [lcmP_eq a b ha]
  exact Nat.le_of_dvd (by omega) (Nat.lcm_dvd h1 h2)
theorem G.op (op : Bool → Bool → Bool) {m1 m2 : Nat → Bool} (g1 : G m1) (g2 : G m2) : G (fun k => op (m1 k) (m2 k)) := Ev.op op g1 g2
theorem G.inv {m : Nat → Bool} (g : G m) : G (fun k => !m k) := fun n hn => by show (!m (n + 60)) = !m n; rw [g n hn]
section
variable {m1 m2 : Nat → Bool} (g1 : G m1) (g2 : G m2)
include g1 g2
theorem and_S (n : Int) : f_Sizes___and__ [sz m1, sz m2] n = some (.ok (sz fun k => m1 k && m2 k), n) := by
  obtain ⟨t1, q1, L1, a1, b1, c1, d1, e1⟩ := g1.form
  obtain ⟨t2, q2, L2, a2, b2, c2, d2, e2⟩ := g2.form
  obtain ⟨t, q, L, _, _, e⟩ := and_ok m1 m2 t1 q1 t2 q2 L1.ev L2.ev c1 c2 (by omega) (by omega) (by have := lcm60 c1 b1 b2; omega) (by omega) (by omega)
  rw [e1, e2, sz_eq L, e]
theorem or_S (n : Int) : f_Sizes___or__ [sz m1, sz m2] n = some (.ok (sz fun k => m1 k || m2 k), n) := by
  obtain ⟨t1, q1, L1, a1, b1, c1, d1, e1⟩ := g1.form
  obtain ⟨t2, q2, L2, a2, b2, c2, d2, e2⟩ := g2.form
  obtain ⟨t, q, L, _, _, e⟩ := or_ok m1 m2 t1 q1 t2 q2 L1.ev L2.ev c1 c2 (by omega) (by omega) (by have := lcm60 c1 b1 b2; omega) (by omega) (by omega)
  rw [e1, e2, sz_eq L, e]
theorem sub_S (n : Int) : f_Sizes___sub__ [sz m1, sz m2] n = some (.ok (sz fun k => m1 k && !m2 k), n) := by
  obtain ⟨t1, q1, L1, a1, b1, c1, d1, e1⟩ := g1.form
  obtain ⟨t2, q2, L2, a2, b2, c2, d2, e2⟩ := g2.form
  obtain ⟨t, q, L, _, _, e⟩ := sub_ok m1 m2 t1 q1 t2 q2 L1.ev L2.ev c1 c2 (by omega) (by omega) (by have := lcm60 c1 b1 b2; omega) (by omega) (by omega)
  rw [e1, e2, sz_eq L, e]
theorem within_S (n : Int) : f_Sizes_within [sz m1, sz m2] n = some (.ok (.bl ((List.range 100).all fun k => m2 k || !m1 k)), n) := by
  obtain ⟨t1, q1, L1, a1, b1, c1, d1, e1⟩ := g1.form
  obtain ⟨t2, q2, L2, a2, b2, c2, d2, e2⟩ := g2.form
  have hl := lcm60 c1 b1 b2
  rw [e1, e2]
  exact within_ok m1 m2 t1 q1 t2 q2 L1.ev L2.ev c1 c2 (by omega) (by omega) (by omega) (by omega) (by omega) 100 (by omega) n
open Classical in
theorem eq_S (n : Int) : f_Sizes___eq__ [sz m1, sz m2] n = some (.ok (.bl (decide (m1 = m2))), n) := by
  obtain ⟨t1, q1, L1, _, _, _, _, e1⟩ := g1.form
  obtain ⟨t2, q2, L2, _, _, _, _, e2⟩ := g2.form
  rw [e1, e2]
  exact eq_ok m1 m2 t1 q1 t2 q2 L1 L2 n
end
section
variable {m : Nat → Bool} (g : G m)
include g
theorem inv_S (n : Int) : f_Sizes___invert__ [sz m] n = some (.ok (sz fun k => !m k), n) := by
  obtain ⟨t1, q1, L1, a1, b1, c1, d1, e1⟩ := g.form
  obtain ⟨t, q, L, _, _, e⟩ := inv_ok m t1 q1 L1.ev c1 (by omega) (by omega)
  rw [e1, sz_eq L, e]
theorem isC_S : isC 2 (sz m) = true := by
  obtain ⟨t1, q1, L1, a1, b1, c1, d1, e1⟩ := g.form
  rw [e1]
  rfl
theorem has_S (k : Nat) (n : Int) : f_Sizes___contains__ [sz m, .int k] n = some (.ok (.bl (m k)), n) := by
  obtain ⟨t1, q1, L1, a1, b1, c1, d1, e1⟩ := g.form
  rw [e1]
  exact has_ok m t1 q1 L1.ev L1.pos k n
theorem bool_S (n : Int) : f_Sizes___bool__ [sz m] n = some (.ok (.bl (!(mem m 100).isEmpty)), n) := by
  obtain ⟨t1, q1, L1, a1, b1, c1, d1, e1⟩ := g.form
  rw [e1]
  exact bool_ok m t1 q1 L1.ev L1.pos 100 (by omega) n
theorem least_S (n : Int) : f_Sizes_least [sz m] n = some (.ok (optD (mem m 100).head?), n) := by
  obtain ⟨t1, q1, L1, a1, b1, c1, d1, e1⟩ := g.form
  rw [e1]
  exact least_run m t1 q1 L1.ev L1.pos 100 (by omega) n
end
end K36
end

section
set_option Elab.async false
set_option linter.all false
set_option autoImplicit false
set_option maxRecDepth 100000
namespace K36
open DL PySem L2 P_k36_whole_set_identities PyProof.Rows
theorem set_draw (W : Wd) (n : Int) : ∃ m n', G m ∧ f__law_set W [.drw] n = some (.ok (sz m), n') := by
  obtain ⟨v1, a1, b1, ea⟩ := take_ok W 40 n (by omega)
  obtain ⟨d, hd, eb⟩ := pick_ok W [.int 1, .int 2, .int 3, .int 4, .int 6, .int 12, .int 5] (by simp) (n + 1)
  obtain ⟨s, rfl⟩ : ∃ s : Nat, v1 = (s : Int) := ⟨v1.toNat, by omega⟩
  obtain ⟨p, hp, hp1, hp6, hp60⟩ : ∃ p : Nat, d = .int p ∧ 1 ≤ p ∧ p ≤ 12 ∧ p ∣ 60 := by
    simp only [List.mem_cons, List.not_mem_nil, or_false] at hd
    rcases hd with h | h | h | h | h | h | h
    · exact ⟨1, h, by omega, by omega, ⟨60, rfl⟩⟩
    · exact ⟨2, h, by omega, by omega, ⟨30, rfl⟩⟩
    · exact ⟨3, h, by omega, by omega, ⟨20, rfl⟩⟩
    · exact ⟨4, h, by omega, by omega, ⟨15, rfl⟩⟩
    · exact ⟨6, h, by omega, by omega, ⟨10, rfl⟩⟩
    · exact ⟨12, h, by omega, by omega, ⟨5, rfl⟩⟩
    · exact ⟨5, h, by omega, by omega, ⟨12, rfl⟩⟩
  subst hp
  have hs : s ≤ 40 := by omega
  obtain ⟨f, n1, c1⟩ := comp_draw (compB [5] (gV 5) (tB (e2 dEq (eCall (f__law_take W) (eCons (eVar 0) (eCons (eC (.int 3)) eNil))) (eC (.int 0)))) (eVar 5) [.val .drw, .val (.int s), .val (.int p), .no, .no, .no]) (List.range s) (n + 1 + 1) List.nodup_range fun k hk n => by
    obtain ⟨v, _, _, e⟩ := take_ok W 3 n (by omega)
    refine ⟨decide (v = 0), n + 1, ?_⟩
    by_cases h : v = 0 <;> simp [e, h]
  obtain ⟨g, n2, c2⟩ := comp_draw (compB [5] (gV 5) (tB (e2 dEq (eCall (f__law_take W) (eCons (eVar 0) (eCons (eC (.int 2)) eNil))) (eC (.int 0)))) (eVar 5) [.val .drw, .val (.int s), .val (.int p), .val (iT ((List.range s).filter f)), .no, .no]) (List.range p) n1 List.nodup_range fun k hk n => by
    obtain ⟨v, _, _, e⟩ := take_ok W 2 n (by omega)
    refine ⟨decide (v = 0), n + 1, ?_⟩
    by_cases h : v = 0 <;> simp [e, h]
  let m : Nat → Bool := fun k => if k < s then f k else g ((k - s) % p)
  have em : eN m s = (List.range s).filter f := List.filter_congr fun x hx => by
    rw [List.mem_range] at hx
    show (if x < s then f x else _) = f x
    rw [if_pos hx]
  have lm : lN m s p = (List.range p).filter g := List.filter_congr fun x hx => by
    rw [List.mem_range] at hx
    show (if s + x < s then f (s + x) else g ((s + x - s) % p)) = g x
    rw [if_neg (by omega), Nat.add_sub_cancel_left, Nat.mod_eq_of_lt hx]
  have ev : Ev m s p := fun n hn => by
    show (if n + p < s then f (n + p) else g ((n + p - s) % p)) = (if n < s then f n else g ((n - s) % p))
    rw [if_neg (by omega), if_neg (by omega)]
    have : n + p - s = (n - s) + p := by omega
    rw [this, Nat.add_mod_right]
  obtain ⟨t, q, L, _, _, hi⟩ := init_ok m s p ev hp1 (by omega) (by omega)
  refine ⟨m, n2, (ev.mono (by omega : s ≤ 40)).dvd hp60, ?_⟩
  rw [sz_eq L]
  have hi := hi n2
  have mk' := mk_sz m t q
  have r1 := rng1 s (by omega)
  have r2 := rng1 p (by omega)
  have z1 : (((List.range s).filter f).map fun k : Nat => D.int k).length ≤ 16777216 := by
    have := List.length_filter_le f (List.range s)
    rw [List.length_range] at this
    rw [List.length_map]; omega
  have z2 : (((List.range p).filter g).map fun k : Nat => D.int k).length ≤ 16777216 := by
    have := List.length_filter_le g (List.range p)
    rw [List.length_range] at this
    rw [List.length_map]; omega
  have t1 : dTupOf [.lst (((List.range s).filter f).map fun k : Nat => D.int k)] = some (iT ((List.range s).filter f)) := rfl
  have t2 : dTupOf [.lst (((List.range p).filter g).map fun k : Nat => D.int k)] = some (iT ((List.range p).filter g)) := rfl
  rw [em, lm] at hi
  generalize szD m t q = Z at *
  generalize iT ((List.range s).filter f) = A1 at *
  generalize iT ((List.range p).filter g) = A2 at *
  generalize (((List.range s).filter f).map fun k : Nat => D.int k) = B1 at *
  generalize (((List.range p).filter g).map fun k : Nat => D.int k) = B2 at *
  generalize ((List.range s).map fun k : Nat => D.int k) = C1 at *
  generalize ((List.range p).map fun k : Nat => D.int k) = C2 at *
  simp only [f__law_set, g__law_set]
  simp [ea, eb, r1, r2, c1, c2, mkLst_of z1, mkLst_of z2, t1, t2, hi, mk']
/-! ### the count of a set, its first ones -/
def fin (m : Nat → Bool) : Prop := ∀ k, 40 ≤ k → m k = false
theorem fin_iff {m : Nat → Bool} {t q : Nat} (L : Least m t q) (ht : t ≤ 40) : lN m t q = [] ↔ fin m := by
  constructor
  · intro h k hk
    exact lN_nil m t q L.ev L.pos h k (by omega)
  · intro h
    unfold lN
    rw [List.filter_eq_nil_iff]
    intro r hr
    have : m (t + r) = false := by
      have e := (L.ev.mul 40) (t + r) (by omega)
      rw [← e]
      refine h _ ?_
      have : 40 * 1 ≤ 40 * q := Nat.mul_le_mul_left _ L.pos
      omega
    rw [this]
    simp
section
variable {m : Nat → Bool} (g : G m)
include g
open Classical in
theorem many_S (n : Int) : f_Sizes_many [sz m] n = some (.ok (if fin m then .int (mem m 100).length else .non), n) := by
  obtain ⟨t1, q1, L1, a1, b1, c1, d1, e1⟩ := g.form
  rw [e1, many_run]
  by_cases h : lN m t1 q1 = []
  · rw [if_pos h, if_pos ((fin_iff L1 a1).mp h), mem_fin m t1 q1 L1.ev L1.pos h 100 (by omega)]
  · rw [if_neg h, if_neg fun f => h ((fin_iff L1 a1).mpr f)]
theorem first_S (c : Nat) (hc : c ≤ 30) (n : Int) : f_Sizes_first [sz m, .int c] n = some (.ok (encL ((mem m 2000).take c)), n) := by
  obtain ⟨t1, q1, L1, a1, b1, c1, d1, e1⟩ := g.form
  rw [e1]
  have : c * q1 ≤ 30 * 60 := Nat.mul_le_mul hc d1
  exact first_ok m t1 q1 L1.ev L1.pos (by omega) c (by omega) 2000 (by omega) n fun _ => by omega
theorem first_len (hf : ¬ fin m) (c : Nat) (hc : c ≤ 30) : ((mem m 2000).take c).length = c := by
  obtain ⟨t1, q1, L1, a1, b1, c1, d1, e1⟩ := g.form
  have hl : lN m t1 q1 ≠ [] := fun h => hf ((fin_iff L1 a1).mp h)
  have : c * q1 ≤ 30 * 60 := Nat.mul_le_mul hc d1
  rw [take_seq m t1 q1 L1.ev L1.pos hl c 2000 (by omega)]
  simp
  omega
end
end K36
end

section
set_option Elab.async false
set_option linter.all false
set_option autoImplicit false
set_option maxRecDepth 100000
namespace K36
open DL PySem L2 P_k36_whole_set_identities PyProof.Rows
/-! ### expressions over sets -/
def SE (e : EX) (ρ : DL.Env) (m : Nat → Bool) : Prop := G m ∧ ∀ n, e ρ n = some (.ok (sz m), n)
section
variable {ρ : DL.Env} {a b : EX} {m m1 m2 : Nat → Bool}
theorem SE.cast (h : SE a ρ m1) (e : m1 = m2) : SE a ρ m2 := e ▸ h
theorem own2_E {f : FX} {op : (Nat → Bool) → (Nat → Bool) → (Nat → Bool)} (hf : ∀ {m1 m2}, G m1 → G m2 → G (op m1 m2) ∧ ∀ n, f [sz m1, sz m2] n = some (.ok (sz (op m1 m2)), n)) (h1 : SE a ρ m1) (h2 : SE b ρ m2) : SE (eOwn2 2 f a b) ρ (op m1 m2) := by
  obtain ⟨g1, e1⟩ := h1
  obtain ⟨g2, e2⟩ := h2
  obtain ⟨g, e⟩ := hf g1 g2
  refine ⟨g, fun n => ?_⟩
  have i1 := isC_S g1
  have i2 := isC_S g2
  rw [eOwn2_ap, bind_ap, e1, bindR_ok, bind_ap, e2, bindR_ok, i1, i2]
  exact e n
theorem and_E (h1 : SE a ρ m1) (h2 : SE b ρ m2) : SE (eOwn2 2 f_Sizes___and__ a b) ρ (fun k => m1 k && m2 k) := own2_E (op := fun x y k => x k && y k) (fun g1 g2 => ⟨g1.op (fun x y => x && y) g2, and_S g1 g2⟩) h1 h2
theorem or_E (h1 : SE a ρ m1) (h2 : SE b ρ m2) : SE (eOwn2 2 f_Sizes___or__ a b) ρ (fun k => m1 k || m2 k) := own2_E (op := fun x y k => x k || y k) (fun g1 g2 => ⟨g1.op (fun x y => x || y) g2, or_S g1 g2⟩) h1 h2
theorem sub_E (h1 : SE a ρ m1) (h2 : SE b ρ m2) : SE (eOwn2 2 f_Sizes___sub__ a b) ρ (fun k => m1 k && !m2 k) := own2_E (op := fun x y k => x k && !y k) (fun g1 g2 => ⟨g1.op (fun x y => x && !y) g2, sub_S g1 g2⟩) h1 h2
theorem inv_E (h : SE a ρ m) : SE (e1M (mOwn1 2 f_Sizes___invert__) a) ρ (fun k => !m k) := by
  obtain ⟨g, e⟩ := h
  refine ⟨g.inv, fun n => ?_⟩
  rw [e1M_ap, bind_ap, e, bindR_ok, calm_ap, mOwn1_ap, isC_S g, if_pos rfl, inv_S g, calmR_ok]
/-- two sets in a pair, the same -/
def RowE (e : EX) (ρ : DL.Env) (m : Nat → Bool) : Prop := G m ∧ ∀ n, e ρ n = some (.ok (.tup [sz m, sz m]), n)
theorem row_E (h1 : SE a ρ m1) (h2 : SE b ρ m2) (e : m2 = m1) : RowE (eTup (eCons a (eCons b eNil))) ρ m1 := by
  subst e
  obtain ⟨g, e1⟩ := h1
  obtain ⟨_, e2⟩ := h2
  refine ⟨g, fun n => ?_⟩
  generalize sz m2 = z at *
  simp [e1, e2]
noncomputable def rowD (m : Nat → Bool) : D := .tup [sz m, sz m]
noncomputable def rowsD (ms : List (Nat → Bool)) : List D := ms.map rowD
def RowsE (e : EXs) (ρ : DL.Env) (ms : List (Nat → Bool)) : Prop := (∀ m ∈ ms, G m) ∧ ∀ n, e ρ n = some (.ok (rowsD ms), n)
theorem rows_nil : RowsE eNil ρ [] := ⟨fun _ h => (nomatch h), fun _ => rfl⟩
theorem rows_cons {es : EXs} {ms : List (Nat → Bool)} (h : RowE a ρ m) (hs : RowsE es ρ ms) : RowsE (eCons a es) ρ (m :: ms) := by
  obtain ⟨g, e⟩ := h
  obtain ⟨gs, es'⟩ := hs
  refine ⟨fun x hx => ?_, fun n => ?_⟩
  · rcases List.mem_cons.mp hx with h | h
    · exact h ▸ g
    · exact gs x h
  · rw [eCons_ap, bind_ap, e, bindR_ok, bind_ap, es', bindR_ok]
    rfl
end
/-! ### the law's own words -/
theorem form_S (m : Nat → Bool) (t q : Nat) (n : Int) : f__law_form [szD m t q] n = some (.ok (fmD m t q), n) := by
  have f1 := fld_early m t q
  have f2 := fld_start m t q
  have f3 := fld_period m t q
  have f4 := fld_later m t q
  have e : fmD m t q = .tup [iT (eN m t), .int t, .int q, iT (lN m t q)] := rfl
  rw [e]
  generalize iT (eN m t) = A at *
  generalize iT (lN m t q) = B at *
  generalize szD m t q = Z at *
  simp only [f__law_form, g__law_form]
  simp [f1, f2, f3, f4]
def neK (d : D) : Option D := match dBool d with | some t => some (.bl (!t)) | none => none
theorem neK_eq (d : D) : (dBool d).map (fun t => D.bl (!t)) = neK d := by unfold neK; cases dBool d <;> rfl
theorem mOwnNe_ap (c : Nat) (fx : FX) (x y : D) : mOwnNe c fx x y = if isC c x && isC c y then M.bind (fx [x, y]) (fun d => M.opt (neK d)) else M.opt none := by
  unfold mOwnNe
  simp only [neK_eq]
theorem neK_bl (b : Bool) : neK (.bl b) = some (.bl (!b)) := (rfl)
theorem fm_refl {m : Nat → Bool} {t q : Nat} (L : Least m t q) : dEq (fmD m t q) (fmD m t q) = some (.bl true) := by
  classical
  rw [fm_eq m m t q t q L L, decide_eq_true rfl]
theorem same_S {m : Nat → Bool} (g : G m) (n : Int) : f__law_same [sz m, sz m] n = some (.ok (.bl true), n) := by
  classical
  have e := eq_S g g n
  rw [decide_eq_true rfl] at e
  have i := isC_S g
  obtain ⟨t, q, L, _, _, _, _, hz⟩ := g.form
  have f := form_S m t q n
  rw [← hz] at f
  have fr := fm_refl L
  generalize fmD m t q = F at *
  generalize sz m = Z at *
  simp only [f__law_same, g__law_same]
  simp [e, i, mOwnNe_ap, neK_bl, f, fr]
theorem all_true (k : Nat) : dAll [.lst (List.replicate k (.bl true))] = some (.bl true) := by
  have := all_map (fun _ : Nat => true) (List.range k)
  have e1 : (List.range k).map (fun _ => D.bl true) = List.replicate k (.bl true) := by
    rw [List.map_const']
    simp
  rw [e1] at this
  rw [this]
  congr 2
  rw [List.all_eq_true]
  exact fun _ _ => rfl
theorem comp_true (b : D → M (Option D)) (n : Int) : ∀ ds : List D, (∀ d ∈ ds, b d n = some (.ok (some (.bl true)), n)) → compD b ds n = some (.ok (List.replicate ds.length (.bl true)), n)
  | [], _ => rfl
  | d :: ds, h => by
    have h1 := h d List.mem_cons_self
    have h2 := comp_true b n ds fun x hx => h x (List.mem_cons_of_mem _ hx)
    rw [compD_cons]
    simp only [bind_ap, h1, bindR_ok, h2, pure_ap]
    rfl
end K36
end

section
set_option Elab.async false
set_option linter.all false
set_option autoImplicit false
set_option maxRecDepth 100000
namespace K36
open DL PySem L2 P_k36_whole_set_identities PyProof.Rows
theorem ints_map : ∀ ns : List Nat, dInts (ns.map fun k : Nat => D.int k) = some (ns.map fun k : Nat => (k : Int))
  | [] => rfl
  | k :: r => by
    rw [List.map_cons, List.map_cons]
    show (match dInts (r.map fun k : Nat => D.int k) with | some ns => some ((k : Int) :: ns) | none => none) = _
    rw [ints_map r]
theorem intsD_map : ∀ ns : List Nat, intsD (ns.map fun k : Nat => D.int k) = some (ns.map fun k : Nat => (k : Int))
  | [] => rfl
  | k :: r => by
    rw [List.map_cons, List.map_cons]
    show (match intsD (r.map fun k : Nat => D.int k) with | some ns => some ((k : Int) :: ns) | none => none) = _
    rw [intsD_map r]
theorem srt_same : ∀ l : List Int, l.Pairwise (fun a b => leZ a b = true) → srt leZ l = l
  | [], _ => rfl
  | x :: r, h => by
    rw [List.pairwise_cons] at h
    show ins leZ x (srt leZ r) = x :: r
    rw [srt_same r h.2]
    cases r with
    | nil => rfl
    | cons y r =>
      show (if leZ x y = true then x :: y :: r else _) = _
      rw [if_pos (h.1 y List.mem_cons_self)]
theorem encL_map (ns : List Nat) : encL ns = .lst (ns.map fun k : Nat => D.int k) := rfl
theorem pw_le {ns : List Nat} (h : ns.Pairwise (· < ·)) : (ns.map fun k : Nat => (k : Int)).Pairwise (fun a b => leZ a b = true) := by
  rw [List.pairwise_map]
  exact h.imp fun {a b} hab => by unfold leZ; simp; omega
theorem sorted_L {ns : List Nat} (h : ns.Pairwise (· < ·)) (h0 : ns ≠ []) : dSorted [encL ns] = some (encL ns) := by
  rw [encL_map]
  show (match strsD (ns.map fun k : Nat => D.int k) with | some l => _ | none => (match intsD (ns.map fun k : Nat => D.int k) with | some l => some (D.lst ((srt leZ l).map .int)) | none => none)) = _
  have e : strsD (ns.map fun k : Nat => D.int k) = none := by
    cases ns with
    | nil => exact absurd rfl h0
    | cons a r => rfl
  rw [e, intsD_map]
  show some (D.lst ((srt leZ (ns.map fun k : Nat => (k : Int))).map .int)) = _
  rw [srt_same _ (pw_le h), List.map_map]
  rfl
theorem lenSet_L {ns : List Nat} (h : ns.Pairwise (· < ·)) (hl : ns.length < 64) : dLenSet (encL ns) = some (.int ns.length) := by
  rw [encL_map]
  show (match dInts (ns.map fun k : Nat => D.int k) with | some ns => if ns.length < 64 ∧ ns.Nodup then some (D.int ns.length) else none | none => none) = _
  rw [ints_map]
  have nd : (ns.map fun k : Nat => (k : Int)).Nodup := by
    unfold List.Nodup
    rw [List.pairwise_map]
    exact h.imp fun {a b} hab => by omega
  show (if (ns.map fun k : Nat => (k : Int)).length < 64 ∧ (ns.map fun k : Nat => (k : Int)).Nodup then some (D.int (ns.map fun k : Nat => (k : Int)).length) else none) = _
  rw [if_pos ⟨by rw [List.length_map]; exact hl, nd⟩, List.length_map]
theorem mem_pw (m : Nat → Bool) (N : Nat) : (mem m N).Pairwise (· < ·) := List.Pairwise.filter _ List.pairwise_lt_range
/-! ### the least of a set -/
def hd (m : Nat → Bool) (N : Nat) : Option Nat := (mem m N).head?
theorem hd_some {m : Nat → Bool} {N k : Nat} : hd m N = some k ↔ (k < N ∧ m k = true ∧ ∀ j, j < k → m j = false) := by
  induction N with
  | zero => simp [hd, mem]
  | succ N ih =>
    have e : mem m (N + 1) = mem m N ++ (if m N then [N] else []) := by
      unfold mem
      rw [List.range_succ, List.filter_append, List.filter_cons]
      rfl
    have e2 : hd m (N + 1) = (hd m N).or (if m N then [N] else []).head? := by
      unfold hd
      rw [e, List.head?_append]
    rw [e2]
    cases hh : hd m N with
    | some j =>
      rw [hh] at ih
      have hj : hd m N = some j := hh
      show (some j = some k) ↔ _
      constructor
      · intro h
        have := ih.mp h
        exact ⟨by omega, this.2⟩
      · rintro ⟨h1, h2, h3⟩
        by_cases c : k < N
        · exact ih.mpr ⟨c, h2, h3⟩
        · have hkN : k = N := by omega
          subst hkN
          have mm : j ∈ mem m k := List.mem_of_head? hh
          unfold mem at mm
          rw [List.mem_filter, List.mem_range] at mm
          rw [h3 j mm.1] at mm
          exact absurd mm.2 (by simp)
    | none =>
      have no : mem m N = [] := List.head?_eq_none_iff.mp hh
      have nof : ∀ j, j < N → m j = false := fun j hj => by
        cases c : m j with
        | false => rfl
        | true =>
          have : j ∈ mem m N := List.mem_filter.mpr ⟨List.mem_range.mpr hj, c⟩
          rw [no] at this
          exact absurd this (by simp)
      show ((if m N then [N] else []).head? = some k) ↔ _
      cases c : m N with
      | true =>
        show (some N = some k) ↔ _
        constructor
        · intro h
          injection h with h
          subst h
          exact ⟨by omega, c, nof⟩
        · rintro ⟨h1, h2, h3⟩
          by_cases d : k < N
          · rw [nof k d] at h2; exact absurd h2 (by simp)
          · congr 1; omega
      | false =>
        show ((none : Option Nat) = some k) ↔ _
        constructor
        · intro h; cases h
        · rintro ⟨h1, h2, h3⟩
          by_cases d : k < N
          · rw [nof k d] at h2; exact absurd h2 (by simp)
          · have : k = N := by omega
            subst this
            rw [c] at h2; exact absurd h2 (by simp)
theorem hd_none {m : Nat → Bool} {N : Nat} : hd m N = none ↔ ∀ j, j < N → m j = false := by
  constructor
  · intro h j hj
    have no : mem m N = [] := List.head?_eq_none_iff.mp h
    cases c : m j with
    | false => rfl
    | true =>
      have : j ∈ mem m N := List.mem_filter.mpr ⟨List.mem_range.mpr hj, c⟩
      rw [no] at this
      exact absurd this (by simp)
  · intro h
    cases c : hd m N with
    | none => rfl
    | some k =>
      have := hd_some.mp c
      rw [h k this.1] at this
      exact absurd this.2.1 (by simp)
def lsts (x y : Option Nat) : List Nat := x.toList ++ y.toList
theorem least_or (m1 m2 : Nat → Bool) (N : Nat) : optD (hd (fun k => m1 k || m2 k) N) = (match hd m1 N, hd m2 N with
    | some a, some b => .int (if b < a then b else a : Nat)
    | some a, none => .int a
    | none, some b => .int b
    | none, none => .non) := by
  cases h1 : hd m1 N with
  | none =>
    have g1 := hd_none.mp h1
    cases h2 : hd m2 N with
    | none =>
      have g2 := hd_none.mp h2
      have : hd (fun k => m1 k || m2 k) N = none := hd_none.mpr fun j hj => by show (m1 j || m2 j) = false; rw [g1 j hj, g2 j hj]; rfl
      rw [this]; rfl
    | some b =>
      obtain ⟨b1, b2, b3⟩ := hd_some.mp h2
      have : hd (fun k => m1 k || m2 k) N = some b := hd_some.mpr ⟨b1, by show (m1 b || m2 b) = true; rw [b2]; simp, fun j hj => by show (m1 j || m2 j) = false; rw [g1 j (by omega), b3 j hj]; rfl⟩
      rw [this]; rfl
  | some a =>
    obtain ⟨a1, a2, a3⟩ := hd_some.mp h1
    cases h2 : hd m2 N with
    | none =>
      have g2 := hd_none.mp h2
      have : hd (fun k => m1 k || m2 k) N = some a := hd_some.mpr ⟨a1, by show (m1 a || m2 a) = true; rw [a2]; simp, fun j hj => by show (m1 j || m2 j) = false; rw [g2 j (by omega), a3 j hj]; rfl⟩
      rw [this]; rfl
    | some b =>
      obtain ⟨b1, b2, b3⟩ := hd_some.mp h2
      have : hd (fun k => m1 k || m2 k) N = some (if b < a then b else a) := by
        by_cases c : b < a
        · rw [if_pos c]
          exact hd_some.mpr ⟨b1, by show (m1 b || m2 b) = true; rw [b2]; simp, fun j hj => by show (m1 j || m2 j) = false; rw [a3 j (by omega), b3 j hj]; rfl⟩
        · rw [if_neg c]
          exact hd_some.mpr ⟨a1, by show (m1 a || m2 a) = true; rw [a2]; simp, fun j hj => by show (m1 j || m2 j) = false; rw [a3 j (by omega), b3 j (by omega)]; rfl⟩
      rw [this]; rfl
/-! ### the counts -/
theorem count_or (p q : Nat → Bool) : ∀ l : List Nat, (l.filter fun k => p k || q k).length + (l.filter fun k => p k && q k).length = (l.filter p).length + (l.filter q).length
  | [] => rfl
  | a :: l => by
    have ih := count_or p q l
    rw [List.filter_cons, List.filter_cons, List.filter_cons, List.filter_cons]
    cases p a <;> cases q a <;> simp <;> omega
end K36
end

section
set_option Elab.async false
set_option linter.all false
set_option autoImplicit false
set_option maxRecDepth 100000
namespace K36
open DL PySem L2 P_k36_whole_set_identities PyProof.Rows
def G0 (W : Wd) : SX := (sAsg (gT (gsC (gV 2) (gsC (gV 3) (gsC (gV 4) gsN)))) (eTup (eCons (eCall (f__law_set W) (eCons (eVar 1) eNil)) (eCons (eCall (f__law_set W) (eCons (eVar 1) eNil)) (eCons (eCall (f__law_set W) (eCons (eVar 1) eNil)) eNil)))))
def G1 (W : Wd) : SX := (sPar [5, 6] (eCons (eOwn2 2 (f_Sizes___sub__) (eVar 2) (eVar 2)) (eCons (eOwn2 2 (f_Sizes___or__) (eVar 2) (e1M (mOwn1 2 (f_Sizes___invert__)) (eVar 2))) eNil)))
def G2 (W : Wd) : SX := (sIf (tOrD (tB (e2 dNe (eCall (f__law_form) (eCons (eVar 5) eNil)) (eTup (eCons (eTup eNil) (eCons (eC (.int 0)) (eCons (eC (.int 1)) (eCons (eTup eNil) eNil))))))) (tB (e2 dNe (eCall (f__law_form) (eCons (eVar 6) eNil)) (eTup (eCons (eTup eNil) (eCons (eC (.int 0)) (eCons (eC (.int 1)) (eCons (eTup (eCons (eC (.int 0)) eNil)) eNil)))))))) (sRet (eC (.bl false))) sNx)
def G3 (W : Wd) : SX := (sOwnN 7 (nLst (eCons (eTup (eCons (eOwn2 2 (f_Sizes___and__) (eVar 2) (eVar 3)) (eCons (eOwn2 2 (f_Sizes___and__) (eVar 3) (eVar 2)) eNil))) (eCons (eTup (eCons (eOwn2 2 (f_Sizes___or__) (eVar 2) (eVar 3)) (eCons (eOwn2 2 (f_Sizes___or__) (eVar 3) (eVar 2)) eNil))) (eCons (eTup (eCons (eOwn2 2 (f_Sizes___and__) (eOwn2 2 (f_Sizes___and__) (eVar 2) (eVar 3)) (eVar 4)) (eCons (eOwn2 2 (f_Sizes___and__) (eVar 2) (eOwn2 2 (f_Sizes___and__) (eVar 3) (eVar 4))) eNil))) (eCons (eTup (eCons (eOwn2 2 (f_Sizes___or__) (eOwn2 2 (f_Sizes___or__) (eVar 2) (eVar 3)) (eVar 4)) (eCons (eOwn2 2 (f_Sizes___or__) (eVar 2) (eOwn2 2 (f_Sizes___or__) (eVar 3) (eVar 4))) eNil))) (eCons (eTup (eCons (eOwn2 2 (f_Sizes___and__) (eVar 2) (eOwn2 2 (f_Sizes___or__) (eVar 3) (eVar 4))) (eCons (eOwn2 2 (f_Sizes___or__) (eOwn2 2 (f_Sizes___and__) (eVar 2) (eVar 3)) (eOwn2 2 (f_Sizes___and__) (eVar 2) (eVar 4))) eNil))) (eCons (eTup (eCons (eOwn2 2 (f_Sizes___or__) (eVar 2) (eOwn2 2 (f_Sizes___and__) (eVar 3) (eVar 4))) (eCons (eOwn2 2 (f_Sizes___and__) (eOwn2 2 (f_Sizes___or__) (eVar 2) (eVar 3)) (eOwn2 2 (f_Sizes___or__) (eVar 2) (eVar 4))) eNil))) eNil))))))))
def G4 (W : Wd) : SX := (sExt 7 (eLst (eCons (eTup (eCons (e1M (mOwn1 2 (f_Sizes___invert__)) (eOwn2 2 (f_Sizes___and__) (eVar 2) (eVar 3))) (eCons (eOwn2 2 (f_Sizes___or__) (e1M (mOwn1 2 (f_Sizes___invert__)) (eVar 2)) (e1M (mOwn1 2 (f_Sizes___invert__)) (eVar 3))) eNil))) (eCons (eTup (eCons (e1M (mOwn1 2 (f_Sizes___invert__)) (eOwn2 2 (f_Sizes___or__) (eVar 2) (eVar 3))) (eCons (eOwn2 2 (f_Sizes___and__) (e1M (mOwn1 2 (f_Sizes___invert__)) (eVar 2)) (e1M (mOwn1 2 (f_Sizes___invert__)) (eVar 3))) eNil))) (eCons (eTup (eCons (e1M (mOwn1 2 (f_Sizes___invert__)) (e1M (mOwn1 2 (f_Sizes___invert__)) (eVar 2))) (eCons (eVar 2) eNil))) (eCons (eTup (eCons (eOwn2 2 (f_Sizes___sub__) (eVar 2) (eVar 3)) (eCons (eOwn2 2 (f_Sizes___and__) (eVar 2) (e1M (mOwn1 2 (f_Sizes___invert__)) (eVar 3))) eNil))) (eCons (eTup (eCons (eOwn2 2 (f_Sizes___or__) (eOwn2 2 (f_Sizes___sub__) (eVar 2) (eVar 3)) (eOwn2 2 (f_Sizes___and__) (eVar 2) (eVar 3))) (eCons (eVar 2) eNil))) (eCons (eTup (eCons (eOwn2 2 (f_Sizes___and__) (eVar 2) (eOwn2 2 (f_Sizes___or__) (eVar 2) (eVar 3))) (eCons (eVar 2) eNil))) (eCons (eTup (eCons (eOwn2 2 (f_Sizes___or__) (eVar 2) (eOwn2 2 (f_Sizes___and__) (eVar 2) (eVar 3))) (eCons (eVar 2) eNil))) (eCons (eTup (eCons (eOwn2 2 (f_Sizes___and__) (eVar 2) (eVar 5)) (eCons (eVar 5) eNil))) (eCons (eTup (eCons (eOwn2 2 (f_Sizes___or__) (eVar 2) (eVar 5)) (eCons (eVar 2) eNil))) (eCons (eTup (eCons (eOwn2 2 (f_Sizes___and__) (eVar 2) (eVar 6)) (eCons (eVar 2) eNil))) eNil))))))))))))
def G5 (W : Wd) : SX := (sFrz 7)
def G6 (W : Wd) : SX := (sIf (tNotD (tTru (eB dAll (eCons (eComp [10, 11] (gT (gsC (gV 10) (gsC (gV 11) gsN))) (iOf (eVar 7)) tYesD (eCall (f__law_same) (eCons (eVar 10) (eCons (eVar 11) eNil)))) eNil)))) (sRet (eC (.bl false))) sNx)
def G7 (W : Wd) : SX := (sIf (tOrD (tNotD (tTru (eMeth 2 "within" (f_Sizes_within) (eOwn2 2 (f_Sizes___and__) (eVar 2) (eVar 3)) (eCons (eVar 2) eNil)))) (tOrD (tNotD (tTru (eMeth 2 "within" (f_Sizes_within) (eVar 2) (eCons (eOwn2 2 (f_Sizes___or__) (eVar 2) (eVar 3)) eNil)))) (tOrD (tB (e2 dNe (eMeth 2 "within" (f_Sizes_within) (eVar 2) (eCons (eVar 3) eNil)) (e2M (mOwn 2 (f_Sizes___eq__)) (eOwn2 2 (f_Sizes___sub__) (eVar 2) (eVar 3)) (eVar 5)))) (tOrD (tTru (eBoolO (tOwn 2 (f_Sizes___bool__) (eVar 5)))) (tOrD (tB (e1 (fun d => some (.bl (!isNon d))) (eMeth 2 "least" (f_Sizes_least) (eVar 5) eNil))) (tB (e2 dNe (e1M (mOwn1 2 (f_Sizes_many)) (eVar 5)) (eC (.int 0))))))))) (sRet (eC (.bl false))) sNx)
def G8 (W : Wd) : SX := (sAsg (gV 8) (eComp [13] (gV 13) (iOf (eTup (eCons (eMeth 2 "least" (f_Sizes_least) (eVar 2) eNil) (eCons (eMeth 2 "least" (f_Sizes_least) (eVar 3) eNil) eNil)))) (tB (e1 (fun d => some (.bl (!isNon d))) (eVar 13))) (eVar 13)))
def G9 (W : Wd) : SX := (sIf (tB (e2 dNe (eMeth 2 "least" (f_Sizes_least) (eOwn2 2 (f_Sizes___or__) (eVar 2) (eVar 3)) eNil) (eIf (tB (e2 dNe (eVar 8) (eLst eNil))) (eB dMinL (eCons (eVar 8) eNil)) (eC .non)))) (sRet (eC (.bl false))) sNx)
def G10 (W : Wd) : SX := (sIf (tAndD (tB (e1 (fun d => some (.bl (!isNon d))) (e1M (mOwn1 2 (f_Sizes_many)) (eVar 2)))) (tAndD (tB (e1 (fun d => some (.bl (!isNon d))) (e1M (mOwn1 2 (f_Sizes_many)) (eVar 3)))) (tB (e2 dNe (e1M (mOwn1 2 (f_Sizes_many)) (eOwn2 2 (f_Sizes___or__) (eVar 2) (eVar 3))) (e2 dSub (e2 dAdd (e1M (mOwn1 2 (f_Sizes_many)) (eVar 2)) (e1M (mOwn1 2 (f_Sizes_many)) (eVar 3))) (e1M (mOwn1 2 (f_Sizes_many)) (eOwn2 2 (f_Sizes___and__) (eVar 2) (eVar 3)))))))) (sRet (eC (.bl false))) sNx)
def G11 (W : Wd) : SX := (sIf (tB (e1 (fun d => some (.bl (isNon d))) (e1M (mOwn1 2 (f_Sizes_many)) (eVar 2)))) (sSeq (sAsg (gV 9) (eMeth 2 "first" (f_Sizes_first) (eVar 2) (eCons (eC (.int 30)) eNil)))
  (sIf (tOrD (tB (e2 dNe (eVar 9) (eB dSorted (eCons (eVar 9) eNil)))) (tOrD (tB (e2 dNe (e1 dLenSet (eVar 9)) (eC (.int 30)))) (tOrD (tNotD (tTru (eB dAll (eCons (eComp [13] (gV 13) (iOf (eVar 9)) tYesD (e2M (mOwnIn 2 (f_Sizes___contains__) (fun t => t)) (eVar 13) (eVar 2))) eNil)))) (tB (e2 dNe (eCut (eVar 9) oNone (oSome (eC (.int 7)))) (eMeth 2 "first" (f_Sizes_first) (eVar 2) (eCons (eC (.int 7)) eNil))))))) (sRet (eC (.bl false))) sNx)) sNx)
def G12 (W : Wd) : SX := (sIf (tB (e2 dGt (eCall (f__law_take W) (eCons (eVar 1) (eCons (eC (.int 6)) eNil))) (eC (.int 0)))) (sRet (eC (.bl true))) sNx)
def G13 (W : Wd) : SX := (sAsg (gT (gsC (gV 10) (gsC (gV 11) (gsC (gV 12) gsN)))) (eTup (eCons (eMake 2 (f_Sizes___init__) (eCons (eTup eNil) (eCons (eC (.int 0)) (eCons (eC (.int 4999)) (eCons (eTup (eCons (eC (.int 0)) eNil)) eNil))))) (eCons (eMake 2 (f_Sizes___init__) (eCons (eTup eNil) (eCons (eC (.int 0)) (eCons (eC (.int 2)) (eCons (eTup (eCons (eC (.int 0)) eNil)) eNil))))) (eCons (eMake 2 (f_Sizes___init__) (eCons (eTup eNil) (eCons (eC (.int 0)) (eCons (eC (.int 5040)) (eCons (eTup (eCons (eC (.int 0)) (eCons (eC (.int 1)) eNil))) eNil))))) eNil)))))
def G14 (W : Wd) : SX := (sIf (tNotD (tTru (eLam tr1 (eOwn2 2 (f_Sizes___and__) (eVar 10) (eVar 11))))) (sRet (eC (.bl false))) sNx)
def G15 (W : Wd) : SX := (sIf (tNotD (tTru (eLam tr1 (eOwn2 2 (f_Sizes___or__) (eVar 10) (eVar 11))))) (sRet (eC (.bl false))) sNx)
def G16 (W : Wd) : SX := (sIf (tNotD (tTru (eLam tr1 (eOwn2 2 (f_Sizes___sub__) (eVar 10) (eVar 11))))) (sRet (eC (.bl false))) sNx)
def G17 (W : Wd) : SX := (sIf (tNotD (tTru (eLam tr1 (eMeth 2 "within" (f_Sizes_within) (eVar 11) (eCons (eVar 10) eNil))))) (sRet (eC (.bl false))) sNx)
def G18 (W : Wd) : SX := (sIf (tOrD (tB (e2 dNe (e1 (dFld 2 "later") (eOwn2 2 (f_Sizes___and__) (eVar 12) (eVar 11))) (eTup (eCons (eC (.int 0)) eNil)))) (tOrD (tB (e2 dNe (e1 (dFld 2 "period") (eOwn2 2 (f_Sizes___or__) (eVar 12) (eVar 11))) (eC (.int 5040)))) (tNotD (tTru (eMeth 2 "within" (f_Sizes_within) (eOwn2 2 (f_Sizes___and__) (eVar 12) (eVar 11)) (eCons (eVar 11) eNil)))))) (sRet (eC (.bl false))) sNx)
def G19 (W : Wd) : SX := (sRet (eAnd (e2 dEq (eCall (f__law_form) (eCons (eVar 10) eNil)) (eTup (eCons (eTup eNil) (eCons (eC (.int 0)) (eCons (eC (.int 4999)) (eCons (eTup (eCons (eC (.int 0)) eNil)) eNil)))))) (e2 dEq (eCall (f__law_form) (eCons (eVar 11) eNil)) (eTup (eCons (eTup eNil) (eCons (eC (.int 0)) (eCons (eC (.int 2)) (eCons (eTup (eCons (eC (.int 0)) eNil)) eNil))))))))
def GG (W : Wd) : SX := (sSeq (G0 W) (sSeq (G1 W) (sSeq (G2 W) (sSeq (G3 W) (sSeq (G4 W) (sSeq (G5 W) (sSeq (G6 W) (sSeq (G7 W) (sSeq (G8 W) (sSeq (G9 W) (sSeq (G10 W) (sSeq (G11 W) (sSeq (G12 W) (sSeq (G13 W) (sSeq (G14 W) (sSeq (G15 W) (sSeq (G16 W) (sSeq (G17 W) (sSeq (G18 W) (G19 W))))))))))))))))))))
theorem GG_eq (W : Wd) : g_law W = GG W := rfl
/-! ### the law's steps -/
def R (A B C : D) (s5 s6 s7 s8 s9 s10 s11 s12 s13 : Sl) : DL.Env := [.val .scr, .val .drw, .val A, .val B, .val C, s5, s6, s7, s8, s9, s10, s11, s12, s13]
def fN : Nat → Bool := fun _ => false
def fW : Nat → Bool := fun _ => true
theorem step0 (W : Wd) (n : Int) : ∃ a b c n', G a ∧ G b ∧ G c ∧ G0 W [.val .scr, .val .drw, .no, .no, .no, .no, .no, .no, .no, .no, .no, .no, .no, .no] n = some (.ok (.nx (R (sz a) (sz b) (sz c) .no .no .no .no .no .no .no .no .no)), n') := by
  obtain ⟨a, n1, ga, ea⟩ := set_draw W n
  obtain ⟨b, n2, gb, eb⟩ := set_draw W n1
  obtain ⟨c, n3, gc, ec⟩ := set_draw W n2
  refine ⟨a, b, c, n3, ga, gb, gc, ?_⟩
  generalize sz a = A at *
  generalize sz b = B at *
  generalize sz c = C at *
  unfold G0 R
  simp [ea, eb, ec]
section
variable {a b c : Nat → Bool} (ga : G a) (gb : G b) (gc : G c)
include ga
theorem va (s5 s6 s7 s8 s9 s10 s11 s12 s13 : Sl) (B C : D) : SE (eVar 2) (R (sz a) B C s5 s6 s7 s8 s9 s10 s11 s12 s13) a := ⟨ga, fun _ => rfl⟩
omit ga
include gb
theorem vb (s5 s6 s7 s8 s9 s10 s11 s12 s13 : Sl) (A C : D) : SE (eVar 3) (R A (sz b) C s5 s6 s7 s8 s9 s10 s11 s12 s13) b := ⟨gb, fun _ => rfl⟩
omit gb
include gc
theorem vc (s5 s6 s7 s8 s9 s10 s11 s12 s13 : Sl) (A B : D) : SE (eVar 4) (R A B (sz c) s5 s6 s7 s8 s9 s10 s11 s12 s13) c := ⟨gc, fun _ => rfl⟩
omit gc
theorem gN : G fN := fun _ _ => rfl
theorem gW : G fW := fun _ _ => rfl
theorem v5 (s6 s7 s8 s9 s10 s11 s12 s13 : Sl) (A B C : D) : SE (eVar 5) (R A B C (.val (sz fN)) s6 s7 s8 s9 s10 s11 s12 s13) fN := ⟨gN, fun _ => rfl⟩
theorem v6 (s5 s7 s8 s9 s10 s11 s12 s13 : Sl) (A B C : D) : SE (eVar 6) (R A B C s5 (.val (sz fW)) s7 s8 s9 s10 s11 s12 s13) fW := ⟨gW, fun _ => rfl⟩
include ga
theorem step1 (W : Wd) (n : Int) (B C : D) : G1 W (R (sz a) B C .no .no .no .no .no .no .no .no .no) n = some (.ok (.nx (R (sz a) B C (.val (sz fN)) (.val (sz fW)) .no .no .no .no .no .no .no)), n) := by
  have v := va ga .no .no .no .no .no .no .no .no .no B C
  have h1 := ((sub_E v v).cast (show (fun k => a k && !a k) = fN by funext k; show (a k && !a k) = false; cases a k <;> rfl)).2
  have h2 := ((or_E v (inv_E v)).cast (show (fun k => a k || !a k) = fW by funext k; show (a k || !a k) = true; cases a k <;> rfl)).2
  unfold G1
  generalize eOwn2 2 f_Sizes___sub__ (eVar 2) (eVar 2) = E1 at *
  generalize eOwn2 2 f_Sizes___or__ (eVar 2) (e1M (mOwn1 2 f_Sizes___invert__) (eVar 2)) = E2 at *
  generalize sz fN = N0 at *
  generalize sz fW = W0 at *
  generalize sz a = A at *
  simp [h1, h2]
  rfl
omit ga
theorem lN0 : Least fN 0 1 := ⟨fun _ _ => rfl, Nat.le_refl _, fun _ _ h _ => h, fun _ _ => Nat.zero_le _⟩
theorem lW0 : Least fW 0 1 := ⟨fun _ _ => rfl, Nat.le_refl _, fun _ _ h _ => h, fun _ _ => Nat.zero_le _⟩
theorem formN (n : Int) : f__law_form [sz fN] n = some (.ok (.tup [.tup [], .int 0, .int 1, .tup []]), n) := by
  rw [sz_eq lN0, form_S]; rfl
theorem formW (n : Int) : f__law_form [sz fW] n = some (.ok (.tup [.tup [], .int 0, .int 1, .tup [.int 0]]), n) := by
  rw [sz_eq lW0, form_S]; rfl
theorem ne1 : dNe (.tup [.tup [], .int 0, .int 1, .tup []]) (.tup [.tup [], .int 0, .int 1, .tup []]) = some (.bl false) := by kernel_rfl
theorem ne2 : dNe (.tup [.tup [], .int 0, .int 1, .tup [.int 0]]) (.tup [.tup [], .int 0, .int 1, .tup [.int 0]]) = some (.bl false) := by kernel_rfl
theorem step2 (W : Wd) (n : Int) (A B C : D) : G2 W (R A B C (.val (sz fN)) (.val (sz fW)) .no .no .no .no .no .no .no) n = some (.ok (.nx (R A B C (.val (sz fN)) (.val (sz fW)) .no .no .no .no .no .no .no)), n) := by
  have h1 := formN n
  have h2 := formW n
  generalize sz fN = N0 at *
  generalize sz fW = W0 at *
  unfold G2 R
  simp [h1, h2, ne1, ne2]
theorem sExt_ap (i : Nat) (fx : EX) (ρ : DL.Env) (n : Int) : sExt i fx ρ n = M.bind (M.opt (ownLst i ρ)) (fun _ => sUp i uExt fx ρ) n := (rfl)
theorem nLst_E {es : EXs} {ρ : DL.Env} {ms : List (Nat → Bool)} (h : RowsE es ρ ms) (hl : ms.length ≤ 100) (n : Int) : nLst es ρ n = some (.ok (rowsD ms), n) := by
  rw [nLst_ap, bind_ap, h.2, bindR_ok, gz_of (by unfold rowsD; rw [List.length_map]; omega)]
  rfl
theorem eLst_E {es : EXs} {ρ : DL.Env} {ms : List (Nat → Bool)} (h : RowsE es ρ ms) (hl : ms.length ≤ 100) (n : Int) : eLst es ρ n = some (.ok (.lst (rowsD ms)), n) := by
  rw [eLst_ap, bind_ap, h.2, bindR_ok, mkLst_of (by unfold rowsD; rw [List.length_map]; omega)]
  rfl
include ga gb gc
theorem step3 (W : Wd) (n : Int) : ∃ ms : List (Nat → Bool), ms.length ≤ 100 ∧ (∀ m ∈ ms, G m) ∧ G3 W (R (sz a) (sz b) (sz c) (.val (sz fN)) (.val (sz fW)) .no .no .no .no .no .no .no) n = some (.ok (.nx (R (sz a) (sz b) (sz c) (.val (sz fN)) (.val (sz fW)) (.own (.lst (rowsD ms))) .no .no .no .no .no .no)), n) := by
  have Va := va ga (.val (sz fN)) (.val (sz fW)) .no .no .no .no .no .no .no (sz b) (sz c)
  have Vb := vb gb (.val (sz fN)) (.val (sz fW)) .no .no .no .no .no .no .no (sz a) (sz c)
  have Vc := vc gc (.val (sz fN)) (.val (sz fW)) .no .no .no .no .no .no .no (sz a) (sz b)
  unfold G3
  have key := rows_cons (row_E (and_E Va Vb) (and_E Vb Va) (by funext k; show (b k && a k) = (a k && b k); cases a k <;> cases b k <;> rfl)) (rows_cons (row_E (or_E Va Vb) (or_E Vb Va) (by funext k; show (b k || a k) = (a k || b k); cases a k <;> cases b k <;> rfl))
    (rows_cons (row_E (and_E (and_E Va Vb) Vc) (and_E Va (and_E Vb Vc)) (by funext k; show (a k && (b k && c k)) = ((a k && b k) && c k); cases a k <;> cases b k <;> rfl)) (rows_cons (row_E (or_E (or_E Va Vb) Vc) (or_E Va (or_E Vb Vc)) (by funext k; show (a k || (b k || c k)) = ((a k || b k) || c k); cases a k <;> cases b k <;> rfl))
    (rows_cons (row_E (and_E Va (or_E Vb Vc)) (or_E (and_E Va Vb) (and_E Va Vc)) (by funext k; show ((a k && b k) || (a k && c k)) = (a k && (b k || c k)); cases a k <;> cases b k <;> rfl))
    (rows_cons (row_E (or_E Va (and_E Vb Vc)) (and_E (or_E Va Vb) (or_E Va Vc)) (by funext k; show ((a k || b k) && (a k || c k)) = (a k || (b k && c k)); cases a k <;> cases b k <;> rfl)) rows_nil)))))
  refine ⟨_, ?_, key.1, ?_⟩
  · simp
  · rw [sOwnN_ap, bind_ap, nLst_E key (by simp), bindR_ok]
    rfl
theorem step4 (W : Wd) (n : Int) (ms : List (Nat → Bool)) (hl : ms.length ≤ 100) (hg : ∀ m ∈ ms, G m) : ∃ ms' : List (Nat → Bool), ms'.length ≤ 200 ∧ (∀ m ∈ ms', G m) ∧ G4 W (R (sz a) (sz b) (sz c) (.val (sz fN)) (.val (sz fW)) (.own (.lst (rowsD ms))) .no .no .no .no .no .no) n = some (.ok (.nx (R (sz a) (sz b) (sz c) (.val (sz fN)) (.val (sz fW)) (.own (.lst (rowsD ms'))) .no .no .no .no .no .no)), n) := by
  have Va := va ga (.val (sz fN)) (.val (sz fW)) (.own (.lst (rowsD ms))) .no .no .no .no .no .no (sz b) (sz c)
  have Vb := vb gb (.val (sz fN)) (.val (sz fW)) (.own (.lst (rowsD ms))) .no .no .no .no .no .no (sz a) (sz c)
  have V5 := v5 (.val (sz fW)) (.own (.lst (rowsD ms))) .no .no .no .no .no .no (sz a) (sz b) (sz c)
  have V6 := v6 (.val (sz fN)) (.own (.lst (rowsD ms))) .no .no .no .no .no .no (sz a) (sz b) (sz c)
  unfold G4
  have key := rows_cons (row_E (inv_E (and_E Va Vb)) (or_E (inv_E Va) (inv_E Vb)) (by funext k; show (!a k || !b k) = !(a k && b k); cases a k <;> cases b k <;> rfl)) (rows_cons (row_E (inv_E (or_E Va Vb)) (and_E (inv_E Va) (inv_E Vb)) (by funext k; show (!a k && !b k) = !(a k || b k); cases a k <;> cases b k <;> rfl))
    (rows_cons (row_E (inv_E (inv_E Va)) Va (by funext k; show a k = !(!a k); cases a k <;> rfl)) (rows_cons (row_E (sub_E Va Vb) (and_E Va (inv_E Vb)) (by funext k; show (a k && !b k) = (a k && !b k); rfl))
    (rows_cons (row_E (or_E (sub_E Va Vb) (and_E Va Vb)) Va (by funext k; show a k = ((a k && !b k) || (a k && b k)); cases a k <;> cases b k <;> rfl)) (rows_cons (row_E (and_E Va (or_E Va Vb)) Va (by funext k; show a k = (a k && (a k || b k)); cases a k <;> cases b k <;> rfl))
    (rows_cons (row_E (or_E Va (and_E Va Vb)) Va (by funext k; show a k = (a k || (a k && b k)); cases a k <;> cases b k <;> rfl)) (rows_cons (row_E (and_E Va V5) V5 (by funext k; show fN k = (a k && fN k); cases a k <;> rfl))
    (rows_cons (row_E (or_E Va V5) Va (by funext k; show a k = (a k || fN k); cases a k <;> rfl)) (rows_cons (row_E (and_E Va V6) Va (by funext k; show a k = (a k && fW k); cases a k <;> rfl)) rows_nil)))))))))
  obtain ⟨ms2, hl2, key⟩ : ∃ ms2 : List (Nat → Bool), ms2.length ≤ 100 ∧ RowsE _ (R (sz a) (sz b) (sz c) (.val (sz fN)) (.val (sz fW)) (.own (.lst (rowsD ms))) .no .no .no .no .no .no) ms2 := ⟨_, by simp, key⟩
  refine ⟨ms ++ ms2, ?_, ?_, ?_⟩
  · rw [List.length_append]; omega
  · intro m hm
    rcases List.mem_append.mp hm with h | h
    · exact hg m h
    · exact key.1 m h
  · have e := eLst_E key hl2 n
    have e7 : ownLst 7 (R (sz a) (sz b) (sz c) (.val (sz fN)) (.val (sz fW)) (.own (.lst (rowsD ms))) .no .no .no .no .no .no) = some () := rfl
    rw [sExt_ap, bind_ap, e7, opt_some, bindR_ok, sUp_ap, bind_ap, e, bindR_ok]
    have u : ∀ ys : List D, ys.length ≤ 100 → uExt (.lst ys) (.lst (rowsD ms)) = some (.lst (rowsD ms ++ ys)) := fun ys hy => by
      show (if (rowsD ms).length + ys.length ≤ sizeLine then some (D.lst (rowsD ms ++ ys)) else none) = _
      rw [if_pos]
      have : (rowsD ms).length = ms.length := List.length_map _
      have : sizeLine = 16777216 := rfl
      omega
    have e8 : own? (R (sz a) (sz b) (sz c) (.val (sz fN)) (.val (sz fW)) (.own (.lst (rowsD ms))) .no .no .no .no .no .no) 7 = some (.lst (rowsD ms)) := rfl
    rw [e8, bind_ap, Option.bind_some, u _ (by unfold rowsD; rw [List.length_map]; exact hl2), opt_some, bindR_ok]
    unfold rowsD
    rw [List.map_append]
    rfl
end
end K36
end

section
set_option Elab.async false
set_option linter.all false
set_option autoImplicit false
set_option maxRecDepth 100000
namespace K36
open DL PySem L2 P_k36_whole_set_identities PyProof.Rows
theorem step5 (W : Wd) (n : Int) (A B C N0 W0 : D) (ds : List D) : G5 W (R A B C (.val N0) (.val W0) (.own (.lst ds)) .no .no .no .no .no .no) n = some (.ok (.nx (R A B C (.val N0) (.val W0) (.val (.lst ds)) .no .no .no .no .no .no)), n) := rfl
theorem step6 (W : Wd) (n : Int) (A B C N0 W0 : D) (ms : List (Nat → Bool)) (hl : ms.length ≤ 200) (hg : ∀ m ∈ ms, G m) : G6 W (R A B C (.val N0) (.val W0) (.val (.lst (rowsD ms))) .no .no .no .no .no .no) n = some (.ok (.nx (R A B C (.val N0) (.val W0) (.val (.lst (rowsD ms))) .no .no .no .no .no .no)), n) := by
  have c := comp_true (compB [10, 11] (gT (gsC (gV 10) (gsC (gV 11) gsN))) tYesD (eCall (f__law_same) (eCons (eVar 10) (eCons (eVar 11) eNil))) (R A B C (.val N0) (.val W0) (.val (.lst (rowsD ms))) .no .no .no .no .no .no)) n (rowsD ms) (fun d hd => by
    unfold rowsD at hd
    obtain ⟨m, hm, rfl⟩ := List.mem_map.mp hd
    have s := same_S (hg m hm) n
    unfold rowD R
    generalize sz m = Z at *
    generalize rowsD ms = RS at *
    simp [s])
  have hl2 : (rowsD ms).length ≤ 200 := by unfold rowsD; rw [List.length_map]; exact hl
  have z : (List.replicate (rowsD ms).length (D.bl true)).length ≤ 16777216 := by rw [List.length_replicate]; omega
  have a := all_true (rowsD ms).length
  unfold G6
  generalize List.replicate (rowsD ms).length (D.bl true) = RR at *
  generalize rowsD ms = RS at *
  unfold R at *
  simp [c, mkLst_of z, a]
section
variable {a b c : Nat → Bool} (ga : G a) (gb : G b)
theorem meth_E {m : Str} {f : FX} {e : EX} {ρ : DL.Env} {x : Nat → Bool} (hi : isObj 2 m (sz x) = true) (h : SE e ρ x) {fs : EXs} {ds : List D} {n : Int} (hs : fs ρ n = some (.ok ds, n)) {r : Option (Except Xc D × Int)} (hr : f (sz x :: ds) n = r) : eMeth 2 m f e fs ρ n = r := by
  rw [eMeth_ap, bind_ap, h.2, bindR_ok, if_pos hi, bind_ap, hs, bindR_ok, hr]
theorem isObj_S {x : Nat → Bool} (g : G x) (m : Str) (hm : m = "within" ∨ m = "least" ∨ m = "first") : isObj 2 m (sz x) = true := by
  obtain ⟨t, q, _, _, _, _, _, e⟩ := g.form
  rw [e]
  rcases hm with h | h | h <;> subst h <;> rfl
theorem within_E {e1 e2 : EX} {ρ : DL.Env} {x y : Nat → Bool} (h1 : SE e1 ρ x) (h2 : SE e2 ρ y) (n : Int) : eMeth 2 "within" f_Sizes_within e1 (eCons e2 eNil) ρ n = some (.ok (.bl ((List.range 100).all fun k => y k || !x k)), n) :=
  meth_E (isObj_S h1.1 _ (.inl rfl)) h1 (ds := [sz y]) (by rw [eCons_ap, bind_ap, h2.2, bindR_ok]; rfl) (within_S h1.1 h2.1 n)
theorem least_E {e1 : EX} {ρ : DL.Env} {x : Nat → Bool} (h1 : SE e1 ρ x) (n : Int) : eMeth 2 "least" f_Sizes_least e1 eNil ρ n = some (.ok (optD (hd x 100)), n) :=
  meth_E (isObj_S h1.1 _ (.inr (.inl rfl))) h1 (ds := []) rfl (least_S h1.1 n)
open Classical in
theorem many_E {e1 : EX} {ρ : DL.Env} {x : Nat → Bool} (h1 : SE e1 ρ x) (n : Int) : e1M (mOwn1 2 f_Sizes_many) e1 ρ n = some (.ok (if fin x then .int (mem x 100).length else .non), n) := by
  rw [e1M_ap, bind_ap, h1.2, bindR_ok, calm_ap, mOwn1_ap, isC_S h1.1, if_pos rfl, many_S h1.1, calmR_ok]
open Classical in
theorem eq_E {e1 e2 : EX} {ρ : DL.Env} {x y : Nat → Bool} (h1 : SE e1 ρ x) (h2 : SE e2 ρ y) (n : Int) : e2M (mOwn 2 f_Sizes___eq__) e1 e2 ρ n = some (.ok (.bl (decide (x = y))), n) := by
  rw [e2M_ap, bind_ap, h1.2, bindR_ok, bind_ap, h2.2, bindR_ok, calm_ap, mOwn_ap, isC_S h1.1, isC_S h2.1]
  show calmR (f_Sizes___eq__ [sz x, sz y] n) = _
  rw [eq_S h1.1 h2.1, calmR_ok]
theorem bool_E {e1 : EX} {ρ : DL.Env} {x : Nat → Bool} (h1 : SE e1 ρ x) (n : Int) : eBoolO (tOwn 2 f_Sizes___bool__ e1) ρ n = some (.ok (.bl (!(mem x 100).isEmpty)), n) := by
  rw [eBoolO_ap, bind_ap, tOwn_ap, bind_ap, e1M_ap, bind_ap, h1.2, bindR_ok, calm_ap, mOwn1_ap, isC_S h1.1, if_pos rfl, bool_S h1.1, calmR_ok, bindR_ok]
  rfl
include ga gb
open Classical in
theorem inside_N : ((List.range 100).all fun k => b k || !a k) = decide ((fun k => a k && !b k) = fN) := by
  rw [Bool.eq_iff_iff, decide_eq_true_iff, List.all_eq_true]
  constructor
  · intro h
    refine eq_check (s := 40) (p := 60) (N := 100) (ga.op (fun x y => x && !y) gb) gN (by omega) (by omega) fun k hk => ?_
    have := h k (List.mem_range.mpr hk)
    show (a k && !b k) = false
    revert this
    cases a k <;> cases b k <;> simp
  · intro h k _
    have := congrFun h k
    have : (a k && !b k) = false := this
    revert this
    cases a k <;> cases b k <;> simp
theorem step7 (W : Wd) (n : Int) (C RS : D) : G7 W (R (sz a) (sz b) C (.val (sz fN)) (.val (sz fW)) (.val RS) .no .no .no .no .no .no) n = some (.ok (.nx (R (sz a) (sz b) C (.val (sz fN)) (.val (sz fW)) (.val RS) .no .no .no .no .no .no)), n) := by
  classical
  have Va := va ga (.val (sz fN)) (.val (sz fW)) (.val RS) .no .no .no .no .no .no (sz b) C
  have Vb := vb gb (.val (sz fN)) (.val (sz fW)) (.val RS) .no .no .no .no .no .no (sz a) C
  have V5 := v5 (.val (sz fW)) (.val RS) .no .no .no .no .no .no (sz a) (sz b) C
  have h1 := within_E (and_E Va Vb) Va n
  have h2 := within_E Va (or_E Va Vb) n
  have h3 := within_E Va Vb n
  have h4 := eq_E (sub_E Va Vb) V5 n
  have h5 := bool_E V5 n
  have h6 := least_E V5 n
  have h7 := many_E V5 n
  have t1 : ((List.range 100).all fun k => a k || !(a k && b k)) = true := by rw [List.all_eq_true]; intro k _; cases a k <;> cases b k <;> rfl
  have t2 : ((List.range 100).all fun k => (a k || b k) || !a k) = true := by rw [List.all_eq_true]; intro k _; cases a k <;> cases b k <;> rfl
  have nN : mem fN 100 = [] := by unfold mem; rw [List.filter_eq_nil_iff]; intro k _; simp [fN]
  have nH : hd fN 100 = none := by unfold hd; rw [nN]; rfl
  have fF : fin fN := fun _ _ => rfl
  rw [t1] at h1
  rw [t2] at h2
  rw [inside_N ga gb] at h3
  rw [nN] at h5
  rw [nH] at h6
  rw [if_pos fF, nN] at h7
  unfold G7
  generalize R (sz a) (sz b) C (.val (sz fN)) (.val (sz fW)) (.val RS) .no .no .no .no .no .no = ρ at *
  generalize eMeth 2 "within" f_Sizes_within (eOwn2 2 f_Sizes___and__ (eVar 2) (eVar 3)) (eCons (eVar 2) eNil) = E1 at *
  generalize eMeth 2 "within" f_Sizes_within (eVar 2) (eCons (eOwn2 2 f_Sizes___or__ (eVar 2) (eVar 3)) eNil) = E2 at *
  generalize eMeth 2 "within" f_Sizes_within (eVar 2) (eCons (eVar 3) eNil) = E3 at *
  generalize e2M (mOwn 2 f_Sizes___eq__) (eOwn2 2 f_Sizes___sub__ (eVar 2) (eVar 3)) (eVar 5) = E4 at *
  generalize eBoolO (tOwn 2 f_Sizes___bool__ (eVar 5)) = E5 at *
  generalize eMeth 2 "least" f_Sizes_least (eVar 5) eNil = E6 at *
  generalize e1M (mOwn1 2 f_Sizes_many) (eVar 5) = E7 at *
  simp [h1, h2, h3, h4, h5, h6, h7, optD]
end
end K36
end

section
set_option Elab.async false
set_option linter.all false
set_option autoImplicit false
set_option maxRecDepth 100000
namespace K36
open DL PySem L2 P_k36_whole_set_identities PyProof.Rows
def keep (x y : Option Nat) : List D := (x.toList ++ y.toList).map fun k : Nat => D.int k
theorem min2 (x y : Nat) : dMinL [.lst [.int x, .int y]] = some (.int (if y < x then y else x : Nat)) := by
  show some (D.int (if (y : Int) < (x : Int) then (y : Int) else (x : Int))) = _
  by_cases h : y < x
  · rw [if_pos h, if_pos (by omega)]
  · rw [if_neg h, if_neg (by omega)]
theorem min1 (x : Nat) : dMinL [.lst [.int x]] = some (.int x) := rfl
theorem neL0 : dNe (.lst []) (.lst []) = some (.bl false) := by kernel_rfl
theorem neL1 (x : Int) : dNe (.lst [.int x]) (.lst []) = some (.bl true) := by kernel_rfl
theorem neL2 (x y : Int) : dNe (.lst [.int x, .int y]) (.lst []) = some (.bl true) := by kernel_rfl
section
variable {a b : Nat → Bool} (ga : G a) (gb : G b)
include ga gb
theorem step8 (W : Wd) (n : Int) (C N0 W0 RS : D) : G8 W (R (sz a) (sz b) C (.val N0) (.val W0) (.val RS) .no .no .no .no .no .no) n = some (.ok (.nx (R (sz a) (sz b) C (.val N0) (.val W0) (.val RS) (.val (.lst (keep (hd a 100) (hd b 100)))) .no .no .no .no .no)), n) := by
  have Va := va ga (.val N0) (.val W0) (.val RS) .no .no .no .no .no .no (sz b) C
  have Vb := vb gb (.val N0) (.val W0) (.val RS) .no .no .no .no .no .no (sz a) C
  have h1 := least_E Va n
  have h2 := least_E Vb n
  unfold G8
  generalize sz a = A at *
  generalize sz b = B at *
  generalize eMeth 2 "least" f_Sizes_least (eVar 2) eNil = E1 at *
  generalize eMeth 2 "least" f_Sizes_least (eVar 3) eNil = E2 at *
  unfold R at *
  generalize hd a 100 = x at *
  generalize hd b 100 = y at *
  clear Va Vb
  cases x <;> cases y <;> simp [optD] at h1 h2 <;> simp [h1, h2, keep, compD_cons, compD_nil]
theorem step9 (W : Wd) (n : Int) (C N0 W0 RS : D) : G9 W (R (sz a) (sz b) C (.val N0) (.val W0) (.val RS) (.val (.lst (keep (hd a 100) (hd b 100)))) .no .no .no .no .no) n = some (.ok (.nx (R (sz a) (sz b) C (.val N0) (.val W0) (.val RS) (.val (.lst (keep (hd a 100) (hd b 100)))) .no .no .no .no .no)), n) := by
  have Va := va ga (.val N0) (.val W0) (.val RS) (.val (.lst (keep (hd a 100) (hd b 100)))) .no .no .no .no .no (sz b) C
  have Vb := vb gb (.val N0) (.val W0) (.val RS) (.val (.lst (keep (hd a 100) (hd b 100)))) .no .no .no .no .no (sz a) C
  have h1 := least_E (or_E Va Vb) n
  rw [least_or] at h1
  unfold G9
  generalize sz a = A at *
  generalize sz b = B at *
  generalize eMeth 2 "least" f_Sizes_least (eOwn2 2 f_Sizes___or__ (eVar 2) (eVar 3)) eNil = E1 at *
  unfold R at *
  clear Va Vb
  generalize hd a 100 = x at *
  generalize hd b 100 = y at *
  cases x <;> cases y
  · simp [keep] at h1 ⊢
    simp [h1, neL0]
  · simp [keep] at h1 ⊢
    simp [h1, neL1, min1]
  · simp [keep] at h1 ⊢
    simp [h1, neL1, min1]
  · rename_i x y
    simp only [keep, Option.toList, List.cons_append, List.nil_append, List.map_cons, List.map_nil] at h1 ⊢
    have m2 := min2 x y
    generalize (if y < x then y else x : Nat) = z at *
    simp [h1, neL2, m2]
end
end K36
end

section
set_option Elab.async false
set_option linter.all false
set_option autoImplicit false
set_option maxRecDepth 100000
namespace K36
open DL PySem L2 P_k36_whole_set_identities PyProof.Rows
theorem neL_self (ns : List Nat) : dNe (encL ns) (encL ns) = some (.bl false) := by
  have := dNe_L ns ns
  rw [this, decide_eq_true rfl]
  rfl
section
variable {a b : Nat → Bool} (ga : G a) (gb : G b)
include ga gb
theorem step10 (W : Wd) (n : Int) (C N0 W0 RS LS : D) : G10 W (R (sz a) (sz b) C (.val N0) (.val W0) (.val RS) (.val LS) .no .no .no .no .no) n = some (.ok (.nx (R (sz a) (sz b) C (.val N0) (.val W0) (.val RS) (.val LS) .no .no .no .no .no)), n) := by
  classical
  have Va := va ga (.val N0) (.val W0) (.val RS) (.val LS) .no .no .no .no .no (sz b) C
  have Vb := vb gb (.val N0) (.val W0) (.val RS) (.val LS) .no .no .no .no .no (sz a) C
  have h1 := many_E Va n
  have h2 := many_E Vb n
  have h3 := many_E (or_E Va Vb) n
  have h4 := many_E (and_E Va Vb) n
  have ct := count_or a b (List.range 100)
  unfold G10
  generalize R (sz a) (sz b) C (.val N0) (.val W0) (.val RS) (.val LS) .no .no .no .no .no = ρ at *
  generalize e1M (mOwn1 2 f_Sizes_many) (eOwn2 2 f_Sizes___or__ (eVar 2) (eVar 3)) = E3 at *
  generalize e1M (mOwn1 2 f_Sizes_many) (eOwn2 2 f_Sizes___and__ (eVar 2) (eVar 3)) = E4 at *
  generalize e1M (mOwn1 2 f_Sizes_many) (eVar 2) = E1 at *
  generalize e1M (mOwn1 2 f_Sizes_many) (eVar 3) = E2 at *
  clear Va Vb
  by_cases fa : fin a
  · rw [if_pos fa] at h1
    by_cases fb : fin b
    · rw [if_pos fb] at h2
      have f3 : fin (fun k => a k || b k) := fun k hk => by show (a k || b k) = false; rw [fa k hk, fb k hk]; rfl
      have f4 : fin (fun k => a k && b k) := fun k hk => by show (a k && b k) = false; rw [fa k hk]; rfl
      rw [if_pos f3] at h3
      rw [if_pos f4] at h4
      have e : ((mem (fun k => a k || b k) 100).length : Int) = (mem a 100).length + (mem b 100).length - (mem (fun k => a k && b k) 100).length := by
        unfold mem
        omega
      generalize ((mem (fun k => a k || b k) 100).length : Int) = x3 at *
      generalize ((mem (fun k => a k && b k) 100).length : Int) = x4 at *
      generalize ((mem a 100).length : Int) = x1 at *
      generalize ((mem b 100).length : Int) = x2 at *
      simp [h1, h2, h3, h4, e]
    · rw [if_neg fb] at h2
      simp [h1, h2]
  · rw [if_neg fa] at h1
    simp [h1]
omit gb
omit ga in
theorem first_E {e1 : EX} {ρ : DL.Env} {x : Nat → Bool} (h1 : SE e1 ρ x) (c : Nat) (hc : c ≤ 30) (n : Int) : eMeth 2 "first" f_Sizes_first e1 (eCons (eC (.int c)) eNil) ρ n = some (.ok (encL ((mem x 2000).take c)), n) :=
  meth_E (isObj_S h1.1 _ (.inr (.inr rfl))) h1 (ds := [.int c]) rfl (first_S h1.1 c hc n)
theorem step11 (W : Wd) (n : Int) (B C N0 W0 RS LS : D) : ∃ s9, G11 W (R (sz a) B C (.val N0) (.val W0) (.val RS) (.val LS) .no .no .no .no .no) n = some (.ok (.nx (R (sz a) B C (.val N0) (.val W0) (.val RS) (.val LS) s9 .no .no .no .no)), n) := by
  classical
  have Va := va ga (.val N0) (.val W0) (.val RS) (.val LS) .no .no .no .no .no B C
  have h1 := many_E Va n
  by_cases fa : fin a
  · rw [if_pos fa] at h1
    refine ⟨.no, ?_⟩
    unfold G11
    generalize R (sz a) B C (.val N0) (.val W0) (.val RS) (.val LS) .no .no .no .no .no = ρ at *
    generalize e1M (mOwn1 2 f_Sizes_many) (eVar 2) = E1 at *
    simp [h1]
  · rw [if_neg fa] at h1
    refine ⟨.val (encL ((mem a 2000).take 30)), ?_⟩
    have Vz := va ga (.val N0) (.val W0) (.val RS) (.val LS) (.val (encL ((mem a 2000).take 30))) .no .no .no .no B C
    have h2 := first_E Va 30 (by omega) n
    have h3 := first_E Vz 7 (by omega) n
    have len := first_len ga fa 30 (by omega)
    have pw : ((mem a 2000).take 30).Pairwise (· < ·) := (mem_pw a 2000).sublist (List.take_sublist _ _)
    have ne : (mem a 2000).take 30 ≠ [] := fun e => by rw [e] at len; simp at len
    have q1 := sorted_L pw ne
    have q2 := lenSet_L pw (by omega)
    rw [len] at q2
    have q3 := cutL_to ((mem a 2000).take 30) 7
    rw [List.take_take] at q3
    have q4 := neL_self ((mem a 2000).take 30)
    have q5 := neL_self ((mem a 2000).take 7)
    have m7 : min 7 30 = 7 := rfl
    rw [m7] at q3
    have c := comp_true (compB [13] (gV 13) tYesD (e2M (mOwnIn 2 (f_Sizes___contains__) (fun t => t)) (eVar 13) (eVar 2)) (R (sz a) B C (.val N0) (.val W0) (.val RS) (.val LS) (.val (encL ((mem a 2000).take 30))) .no .no .no .no)) n (((mem a 2000).take 30).map fun k : Nat => D.int k) (fun d hd => by
      obtain ⟨k, hk, rfl⟩ := List.mem_map.mp hd
      have hk := List.mem_of_mem_take hk
      have hm : a k = true := (List.mem_filter.mp hk).2
      have hs := has_S ga k n
      rw [hm] at hs
      have hi := isC_S ga
      unfold R
      generalize sz a = A at *
      generalize encL ((mem a 2000).take 30) = FS at *
      simp [hs, hi])
    have z : (List.replicate (((mem a 2000).take 30).map fun k : Nat => D.int k).length (D.bl true)).length ≤ 16777216 := by rw [List.length_replicate, List.length_map, len]; omega
    have at' := all_true (((mem a 2000).take 30).map fun k : Nat => D.int k).length
    have it : dItems (encL ((mem a 2000).take 30)) = some (((mem a 2000).take 30).map fun k : Nat => D.int k) := rfl
    have i30 : ((30 : Nat) : Int) = 30 := rfl
    have i7 : ((7 : Nat) : Int) = 7 := rfl
    rw [i30] at h2 q2
    rw [i7] at h3 q3
    unfold G11
    generalize List.replicate (((mem a 2000).take 30).map fun k : Nat => D.int k).length (D.bl true) = RR at *
    generalize (((mem a 2000).take 30).map fun k : Nat => D.int k) = MM at *
    generalize encL ((mem a 2000).take 30) = FS at *
    generalize encL ((mem a 2000).take 7) = F7 at *
    generalize sz a = A at *
    generalize e1M (mOwn1 2 f_Sizes_many) (eVar 2) = E1 at *
    generalize eMeth 2 "first" f_Sizes_first (eVar 2) (eCons (eC (.int 30)) eNil) = E2 at *
    generalize eMeth 2 "first" f_Sizes_first (eVar 2) (eCons (eC (.int 7)) eNil) = E3 at *
    clear Va Vz
    unfold R at *
    simp [h1, h2, h3, q1, q2, q3, q4, q5, c, mkLst_of z, at', it]
end
theorem step12 (W : Wd) (n : Int) (A B C N0 W0 RS LS : D) (s9 : Sl) : (G12 W (R A B C (.val N0) (.val W0) (.val RS) (.val LS) s9 .no .no .no .no) n = some (.ok (.ret (.bl true)), n + 1)) ∨ (G12 W (R A B C (.val N0) (.val W0) (.val RS) (.val LS) s9 .no .no .no .no) n = some (.ok (.nx (R A B C (.val N0) (.val W0) (.val RS) (.val LS) s9 .no .no .no .no)), n + 1)) := by
  obtain ⟨v, v0, v1, e⟩ := take_ok W 6 n (by omega)
  unfold G12 R
  by_cases h : 0 < v
  · left; simp [e, h]
  · right; simp [e, h]
end K36
end

section
set_option Elab.async false
set_option linter.all false
set_option autoImplicit false
set_option maxRecDepth 100000
namespace K36
open DL PySem L2 P_k36_whole_set_identities PyProof.Rows
/-! ### multiples of p -/
def mul (p : Nat) : Nat → Bool := fun k => decide (k % p = 0)
theorem mul_ev (p : Nat) : Ev (mul p) 0 p := fun n _ => by unfold mul; rw [Nat.add_mod_right]
theorem mul_least {p : Nat} (hp : 1 ≤ p) : Least (mul p) 0 p where
  ev := mul_ev p
  pos := hp
  minp := fun s0 q0 h0 h => by
    have h1 : s0 ≤ s0 * p := by have : s0 * 1 ≤ s0 * p := Nat.mul_le_mul_left _ hp; omega
    have e := h (s0 * p) h1
    unfold mul at e
    rw [Nat.mul_mod_left, decide_eq_true rfl] at e
    have e := of_decide_eq_true e
    rw [Nat.add_comm, Nat.add_mul_mod_self_right] at e
    exact Nat.le_of_dvd h0 (Nat.dvd_of_mod_eq_zero e)
  mins := fun _ _ => Nat.zero_le _
theorem lN_mul {p : Nat} (hp : 1 ≤ p) : lN (mul p) 0 p = [0] := by
  obtain ⟨p, rfl⟩ : ∃ r, p = r + 1 := ⟨p - 1, by omega⟩
  unfold lN
  rw [List.range_succ_eq_map, List.filter_cons]
  have e0 : mul (p + 1) (0 + 0) = true := by unfold mul; simp
  rw [e0, if_pos rfl]
  congr 1
  rw [List.filter_eq_nil_iff]
  intro r hr
  obtain ⟨j, hj, rfl⟩ := List.mem_map.mp hr
  rw [List.mem_range] at hj
  unfold mul
  rw [Nat.zero_add, Nat.mod_eq_of_lt (by omega)]
  simp
def two : Nat → Bool := fun k => decide (k % 5040 < 2)
theorem two_ev : Ev two 0 5040 := fun n _ => by unfold two; rw [Nat.add_mod_right]
theorem two_least : Least two 0 5040 where
  ev := two_ev
  pos := by omega
  minp := fun s0 q0 h0 h => by
    have e1 := h (s0 * 5040) (by omega)
    have e2 := h (s0 * 5040 + 1) (by omega)
    unfold two at e1 e2
    rw [decide_eq_true (by omega : s0 * 5040 % 5040 < 2)] at e1
    rw [decide_eq_true (by omega : (s0 * 5040 + 1) % 5040 < 2)] at e2
    have e1 := of_decide_eq_true e1
    have e2 := of_decide_eq_true e2
    omega
  mins := fun _ _ => Nat.zero_le _
theorem lN_two : lN two 0 5040 = [0, 1] := by
  unfold lN
  rw [show (5040 : Nat) = 5039 + 1 from rfl, List.range_succ_eq_map, List.filter_cons]
  have e0 : two (0 + 0) = true := rfl
  rw [e0, if_pos rfl, show (5039 : Nat) = 5038 + 1 from rfl, List.range_succ_eq_map, List.map_cons, List.filter_cons]
  have e1 : two (0 + Nat.succ 0) = true := rfl
  rw [e1, if_pos rfl]
  refine congrArg (fun l => 0 :: 1 :: l) (?_ : _ = ([] : List Nat))
  rw [List.filter_eq_nil_iff]
  intro r hr
  obtain ⟨j, hj, rfl⟩ := List.mem_map.mp hr
  obtain ⟨i, hi, rfl⟩ := List.mem_map.mp hj
  rw [List.mem_range] at hi
  unfold two
  rw [decide_eq_true_iff]
  show ¬ ((0 + (i + 1 + 1)) % 5040 < 2)
  omega
theorem and3 : (fun k => two k && mul 2 k) = mul 5040 := by
  funext k
  show (two k && mul 2 k) = mul 5040 k
  unfold two mul
  rw [Bool.eq_iff_iff, Bool.and_eq_true, decide_eq_true_iff, decide_eq_true_iff, decide_eq_true_iff]
  omega
theorem or3 : Least (fun k => two k || mul 2 k) 0 5040 where
  ev := two_ev.op (fun x y => x || y) ((mul_ev 2).dvd ⟨2520, rfl⟩)
  pos := by omega
  minp := fun s0 q0 h0 h => by
    have e1 := h (s0 * 5040 + 1) (by omega)
    have e2 := h (s0 * 5040 + 3) (by omega)
    have e1 : (two (s0 * 5040 + 1 + q0) || mul 2 (s0 * 5040 + 1 + q0)) = (two (s0 * 5040 + 1) || mul 2 (s0 * 5040 + 1)) := e1
    have e2 : (two (s0 * 5040 + 3 + q0) || mul 2 (s0 * 5040 + 3 + q0)) = (two (s0 * 5040 + 3) || mul 2 (s0 * 5040 + 3)) := e2
    unfold two mul at e1 e2
    rw [decide_eq_true (by omega : (s0 * 5040 + 1) % 5040 < 2), Bool.true_or] at e1
    rw [decide_eq_false (by omega : ¬ (s0 * 5040 + 3) % 5040 < 2), decide_eq_false (by omega : ¬ (s0 * 5040 + 3) % 2 = 0), Bool.false_or] at e2
    rw [Bool.or_eq_true, decide_eq_true_iff, decide_eq_true_iff] at e1
    rw [Bool.or_eq_false_iff, decide_eq_false_iff_not, decide_eq_false_iff_not] at e2
    omega
  mins := fun _ _ => Nat.zero_le _
/-! ### too long a period -/
theorem set_err (w : Str) (m1 m2 : Nat → Bool) (s1 p1 s2 p2 : Nat) (a1 : 1 ≤ p1) (a2 : 1 ≤ p2) (b1 : p1 ≤ 5040) (b2 : p2 ≤ 5040) (hL : 5040 < lcmP p1 p2) (n : Int) :
    f_set_form [fmD m1 s1 p1, fmD m2 s2 p2, .str w] n = some (.error ⟨1, [], []⟩, n) := by
  have cm := common_ok p1 p2 a1 a2 b1 b2 n
  have k1 := fm_per m1 s1 p1
  have k2 := fm_per m2 s2 p2
  obtain ⟨P, hP⟩ : ∃ P, P = lcmP p1 p2 := ⟨_, rfl⟩
  rw [← hP] at cm hL
  generalize fmD m1 s1 p1 = F1 at *
  generalize fmD m2 s2 p2 = F2 at *
  have g0 : SF0 [.val F1, .val F2, .val (.str w), .no, .no, .no, .no, .no, .no, .no, .no] n = some (.ok (.nx [.val F1, .val F2, .val (.str w), .val (.int P), .no, .no, .no, .no, .no, .no, .no]), n) := by
    unfold SF0
    simp [k1, k2, cm]
  have hb : (5040 : Int) < (P : Int) := by omega
  have g1 : SF1 [.val F1, .val F2, .val (.str w), .val (.int P), .no, .no, .no, .no, .no, .no, .no] n = some (.error ⟨1, [], []⟩, n) := by
    unfold SF1
    simp [hb]
    rfl
  have go : SF [.val F1, .val F2, .val (.str w), .no, .no, .no, .no, .no, .no, .no, .no] n = some (.error ⟨1, [], []⟩, n) := by
    unfold SF
    rw [sSeq_ap, bind_ap, g0, bindR_ok, seqK_nx, sSeq_ap, bind_ap, g1, bindR_err]
  show bindR (SF [.val F1, .val F2, .val (.str w), .no, .no, .no, .no, .no, .no, .no, .no] n) runK = _
  rw [go]
  rfl
section
variable (m1 m2 : Nat → Bool) (s1 p1 s2 p2 : Nat) (a1 : 1 ≤ p1) (a2 : 1 ≤ p2) (b1 : p1 ≤ 5040) (b2 : p2 ≤ 5040) (hL : 5040 < lcmP p1 p2)
include a1 a2 b1 b2 hL
theorem op_err {w : Str} (f : FX) (hf : f = runD 6 2 (sSeq (sAsg (gT (gsC (gV 2) (gsC (gV 3) (gsC (gV 4) (gsC (gV 5) gsN))))) (eCall (f_set_form) (eCons (e1 (dFld 2 "form") (eVar 0)) (eCons (e1 (dFld 2 "form") (eVar 1)) (eCons (eC (.str w)) eNil))))) (sRet (eMake 2 (f_Sizes___init__) (eCons (eVar 2) (eCons (eVar 3) (eCons (eVar 4) (eCons (eVar 5) eNil)))))))) (n : Int) :
    f [szD m1 s1 p1, szD m2 s2 p2] n = some (.error ⟨1, [], []⟩, n) := by
  have st := set_err w m1 m2 s1 p1 s2 p2 a1 a2 b1 b2 hL n
  have ff1 := fld_form m1 s1 p1
  have ff2 := fld_form m2 s2 p2
  subst hf
  generalize fmD m1 s1 p1 = F1 at *
  generalize fmD m2 s2 p2 = F2 at *
  generalize szD m1 s1 p1 = Z1 at *
  generalize szD m2 s2 p2 = Z2 at *
  simp only [runD_ap, bind_ap]
  simp [ff1, ff2, st]
theorem and_err (n : Int) : f_Sizes___and__ [szD m1 s1 p1, szD m2 s2 p2] n = some (.error ⟨1, [], []⟩, n) := op_err m1 m2 s1 p1 s2 p2 a1 a2 b1 b2 hL _ rfl n
theorem or_err (n : Int) : f_Sizes___or__ [szD m1 s1 p1, szD m2 s2 p2] n = some (.error ⟨1, [], []⟩, n) := op_err m1 m2 s1 p1 s2 p2 a1 a2 b1 b2 hL _ rfl n
theorem sub_err (n : Int) : f_Sizes___sub__ [szD m1 s1 p1, szD m2 s2 p2] n = some (.error ⟨1, [], []⟩, n) := op_err m1 m2 s1 p1 s2 p2 a1 a2 b1 b2 hL _ rfl n
theorem within_err (n : Int) : f_Sizes_within [szD m1 s1 p1, szD m2 s2 p2] n = some (.error ⟨1, [], []⟩, n) := by
  have e := sub_err m1 m2 s1 p1 s2 p2 a1 a2 b1 b2 hL n
  have i1 : isC 2 (szD m1 s1 p1) = true := rfl
  have i2 : isC 2 (szD m2 s2 p2) = true := rfl
  generalize szD m1 s1 p1 = Z1 at *
  generalize szD m2 s2 p2 = Z2 at *
  simp only [f_Sizes_within, g_Sizes_within]
  simp [i1, i2, e]
end
theorem lam_err {f : EX} {ρ : DL.Env} {n n' : Int} (h : f ρ n = some (.error ⟨1, [], []⟩, n')) : eLam tr1 f ρ n = some (.ok (.bl true), n') := by
  unfold eLam
  rw [h]
  rfl
end K36
end

section
set_option Elab.async false
set_option linter.all false
set_option autoImplicit false
set_option maxRecDepth 100000
namespace K36
open DL PySem L2 P_k36_whole_set_identities PyProof.Rows
noncomputable def D1 : D := szD (mul 4999) 0 4999
noncomputable def D2 : D := szD (mul 2) 0 2
noncomputable def D3 : D := szD two 0 5040
noncomputable def D4 : D := szD (mul 5040) 0 5040
noncomputable def D5 : D := szD (fun k => two k || mul 2 k) 0 5040
theorem init_at (m : Nat → Bool) (p : Nat) (L : Least m 0 p) (hp : p ≤ 5040) (ns : List Nat) (hl : lN m 0 p = ns) (n : Int) : f_Sizes___init__ [.tup [], .int 0, .int p, iT ns] n = some (.ok (szD m 0 p), n) := by
  obtain ⟨t, q, L', _, _, e⟩ := init_ok m 0 p L.ev L.pos hp (by omega)
  obtain ⟨e1, e2⟩ := L.uniq L'
  subst e1; subst e2
  rw [hl] at e
  exact e n
theorem mk1 (n : Int) : f_Sizes___init__ [.tup [], .int 0, .int 4999, .tup [.int 0]] n = some (.ok D1, n) := init_at (mul 4999) 4999 (mul_least (by omega)) (by omega) [0] (lN_mul (by omega)) n
theorem mk2 (n : Int) : f_Sizes___init__ [.tup [], .int 0, .int 2, .tup [.int 0]] n = some (.ok D2, n) := init_at (mul 2) 2 (mul_least (by omega)) (by omega) [0] (lN_mul (by omega)) n
theorem mk3 (n : Int) : f_Sizes___init__ [.tup [], .int 0, .int 5040, .tup [.int 0, .int 1]] n = some (.ok D3, n) := init_at two 5040 two_least (by omega) [0, 1] lN_two n
theorem mkK (m : Nat → Bool) (s p : Nat) : makeK 2 (szD m s p) = M.pure (szD m s p) := mk_sz m s p
theorem step13 (W : Wd) (n : Int) (A B C N0 W0 RS LS : D) (s9 : Sl) : G13 W (R A B C (.val N0) (.val W0) (.val RS) (.val LS) s9 .no .no .no .no) n = some (.ok (.nx (R A B C (.val N0) (.val W0) (.val RS) (.val LS) s9 (.val D1) (.val D2) (.val D3) .no)), n) := by
  have a1 := mk1 n
  have a2 := mk2 n
  have a3 := mk3 n
  have b1 : makeK 2 D1 = M.pure D1 := mkK _ _ _
  have b2 : makeK 2 D2 = M.pure D2 := mkK _ _ _
  have b3 : makeK 2 D3 = M.pure D3 := mkK _ _ _
  generalize D1 = X1 at *
  generalize D2 = X2 at *
  generalize D3 = X3 at *
  unfold G13 R
  simp [a1, a2, a3, b1, b2, b3]
theorem lcmA : 5040 < lcmP 4999 2 := by decide
theorem lcmB : 5040 < lcmP 2 4999 := by decide
theorem lcmC : lcmP 5040 2 = 5040 := by decide
section
variable (W : Wd) (n : Int) (A B C N0 W0 RS LS : D) (s9 : Sl)
abbrev RR (A B C N0 W0 RS LS : D) (s9 : Sl) (X1 X2 X3 : D) : DL.Env := R A B C (.val N0) (.val W0) (.val RS) (.val LS) s9 (.val X1) (.val X2) (.val X3) .no
theorem own_err {f : FX} {X1 X2 X3 : D} (i1 : isC 2 X1 = true) (i2 : isC 2 X2 = true) (h : f [X1, X2] n = some (.error ⟨1, [], []⟩, n)) : eOwn2 2 f (eVar 10) (eVar 11) (RR A B C N0 W0 RS LS s9 X1 X2 X3) n = some (.error ⟨1, [], []⟩, n) := by
  unfold RR R
  simp [i1, i2, h]
theorem lam_step {f : EX} {ρ : DL.Env} (h : f ρ n = some (.error ⟨1, [], []⟩, n)) : sIf (tNotD (tTru (eLam tr1 f))) (sRet (eC (.bl false))) sNx ρ n = some (.ok (.nx ρ), n) := by
  have e := lam_err h
  generalize eLam tr1 f = E at *
  simp [e]
theorem step14 : G14 W (RR A B C N0 W0 RS LS s9 D1 D2 D3) n = some (.ok (.nx (RR A B C N0 W0 RS LS s9 D1 D2 D3)), n) :=
  lam_step n (own_err n A B C N0 W0 RS LS s9 rfl rfl (and_err _ _ 0 4999 0 2 (by omega) (by omega) (by omega) (by omega) lcmA n))
theorem step15 : G15 W (RR A B C N0 W0 RS LS s9 D1 D2 D3) n = some (.ok (.nx (RR A B C N0 W0 RS LS s9 D1 D2 D3)), n) :=
  lam_step n (own_err n A B C N0 W0 RS LS s9 rfl rfl (or_err _ _ 0 4999 0 2 (by omega) (by omega) (by omega) (by omega) lcmA n))
theorem step16 : G16 W (RR A B C N0 W0 RS LS s9 D1 D2 D3) n = some (.ok (.nx (RR A B C N0 W0 RS LS s9 D1 D2 D3)), n) :=
  lam_step n (own_err n A B C N0 W0 RS LS s9 rfl rfl (sub_err _ _ 0 4999 0 2 (by omega) (by omega) (by omega) (by omega) lcmA n))
theorem step17 : G17 W (RR A B C N0 W0 RS LS s9 D1 D2 D3) n = some (.ok (.nx (RR A B C N0 W0 RS LS s9 D1 D2 D3)), n) := by
  refine lam_step n ?_
  have e : f_Sizes_within [D2, D1] n = some (.error ⟨1, [], []⟩, n) := within_err _ _ 0 2 0 4999 (by omega) (by omega) (by omega) (by omega) lcmB n
  have i : isObj 2 "within" D2 = true := rfl
  generalize D1 = X1 at *
  generalize D2 = X2 at *
  generalize D3 = X3 at *
  unfold RR R
  simp [i, e]
theorem step18 : G18 W (RR A B C N0 W0 RS LS s9 D1 D2 D3) n = some (.ok (.nx (RR A B C N0 W0 RS LS s9 D1 D2 D3)), n) := by
  have m2 := mul_least (p := 2) (by omega)
  have m5 := mul_least (p := 5040) (by omega)
  have e1 : f_Sizes___and__ [D3, D2] n = some (.ok D4, n) := by
    obtain ⟨t, q, L, _, _, e⟩ := and_ok two (mul 2) 0 5040 0 2 two_least.ev m2.ev (by omega) (by omega) (by omega) (by omega) (by rw [lcmC]; omega) (by omega) (by omega)
    have e := e n
    rw [and3] at e L
    obtain ⟨q1, q2⟩ := m5.uniq L
    subst q1; subst q2
    exact e
  have e2 : f_Sizes___or__ [D3, D2] n = some (.ok D5, n) := by
    obtain ⟨t, q, L, _, _, e⟩ := or_ok two (mul 2) 0 5040 0 2 two_least.ev m2.ev (by omega) (by omega) (by omega) (by omega) (by rw [lcmC]; omega) (by omega) (by omega)
    obtain ⟨q1, q2⟩ := or3.uniq L
    subst q1; subst q2
    exact e n
  have e3 : f_Sizes_within [D4, D2] n = some (.ok (.bl true), n) := by
    have e := within_ok (mul 5040) (mul 2) 0 5040 0 2 m5.ev m2.ev (by omega) (by omega) (by omega) (by omega) (by rw [lcmC]; omega) (by omega) (by omega) 5040 (by rw [lcmC]; omega) n
    have t : ((List.range 5040).all fun k => mul 2 k || !mul 5040 k) = true := by
      rw [List.all_eq_true]
      intro k _
      unfold mul
      rw [Bool.or_eq_true, decide_eq_true_iff]
      by_cases h : k % 5040 = 0
      · left; omega
      · right; rw [decide_eq_false h]; rfl
    rw [t] at e
    exact e
  have f1 : dFld 2 "later" D4 = some (.tup [.int 0]) := by
    have h := fld_later (mul 5040) 0 5040
    rw [lN_mul (by omega)] at h
    exact h
  have f2 : dFld 2 "period" D5 = some (.int 5040) := fld_period _ _ _
  have i1 : isC 2 D2 = true := rfl
  have i2 : isC 2 D3 = true := rfl
  have i3 : isObj 2 "within" D4 = true := rfl
  have n1 : dNe (.tup [.int 0]) (.tup [.int 0]) = some (.bl false) := by kernel_rfl
  clear m2 m5
  generalize D1 = X1 at *
  generalize D2 = X2 at *
  generalize D3 = X3 at *
  generalize D4 = X4 at *
  generalize D5 = X5 at *
  unfold G18 RR R
  simp [e1, e2, e3, f1, f2, i1, i2, i3, n1]
theorem step19 : G19 W (RR A B C N0 W0 RS LS s9 D1 D2 D3) n = some (.ok (.ret (.bl true)), n) := by
  have f1 : f__law_form [D1] n = some (.ok (.tup [.tup [], .int 0, .int 4999, .tup [.int 0]]), n) := by
    have h := form_S (mul 4999) 0 4999 n
    unfold fmD at h
    rw [lN_mul (by omega)] at h
    exact h
  have f2 : f__law_form [D2] n = some (.ok (.tup [.tup [], .int 0, .int 2, .tup [.int 0]]), n) := by
    have h := form_S (mul 2) 0 2 n
    unfold fmD at h
    rw [lN_mul (by omega)] at h
    exact h
  have n1 : dEq (.tup [.tup [], .int 0, .int 4999, .tup [.int 0]]) (.tup [.tup [], .int 0, .int 4999, .tup [.int 0]]) = some (.bl true) := by kernel_rfl
  have n2 : dEq (.tup [.tup [], .int 0, .int 2, .tup [.int 0]]) (.tup [.tup [], .int 0, .int 2, .tup [.int 0]]) = some (.bl true) := by kernel_rfl
  generalize D1 = X1 at *
  generalize D2 = X2 at *
  generalize D3 = X3 at *
  unfold G19 RR R
  simp [f1, f2, n1, n2]
end
theorem good (W : Wd) : ∃ n', g_law W (.val .scr :: .val .drw :: List.replicate (N_law.length - 2) Sl.no) 0 = some (.ok (.ret (.bl true)), n') := by
  obtain ⟨a, b, c, n0, ga, gb, gc, h0⟩ := step0 W 0
  obtain ⟨ms, l3, g3, h3⟩ := step3 ga gb gc W n0
  obtain ⟨ms', l4, g4, h4⟩ := step4 ga gb gc W n0 ms l3 g3
  obtain ⟨s9, h11⟩ := step11 ga W n0 (sz b) (sz c) (sz fN) (sz fW) (.lst (rowsD ms')) (.lst (keep (hd a 100) (hd b 100)))
  have pre : ∀ {r}, sSeq (G12 W) (sSeq (G13 W) (sSeq (G14 W) (sSeq (G15 W) (sSeq (G16 W) (sSeq (G17 W) (sSeq (G18 W) (G19 W))))))) (R (sz a) (sz b) (sz c) (.val (sz fN)) (.val (sz fW)) (.val (.lst (rowsD ms'))) (.val (.lst (keep (hd a 100) (hd b 100)))) s9 .no .no .no .no) n0 = r → GG W (.val .scr :: .val .drw :: List.replicate (N_law.length - 2) Sl.no) 0 = r := fun h =>
    seq_go h0 (seq_go (step1 ga W n0 _ _) (seq_go (step2 W n0 _ _ _) (seq_go h3 (seq_go h4 (seq_go (step5 W n0 _ _ _ _ _ _) (seq_go (step6 W n0 _ _ _ _ _ ms' l4 g4) (seq_go (step7 ga gb W n0 _ _) (seq_go (step8 ga gb W n0 _ _ _ _) (seq_go (step9 ga gb W n0 _ _ _ _) (seq_go (step10 ga gb W n0 _ _ _ _ _) (seq_go h11 h)))))))))))
  rw [GG_eq]
  rcases step12 W n0 (sz a) (sz b) (sz c) (sz fN) (sz fW) (.lst (rowsD ms')) (.lst (keep (hd a 100) (hd b 100))) s9 with h | h
  · refine ⟨n0 + 1, pre ?_⟩
    rw [sSeq_ap, bind_ap, h, bindR_ok]
    rfl
  · exact ⟨n0 + 1, pre (seq_go h (seq_go (step13 W _ _ _ _ _ _ _ _ _) (seq_go (step14 W _ _ _ _ _ _ _ _ _) (seq_go (step15 W _ _ _ _ _ _ _ _ _) (seq_go (step16 W _ _ _ _ _ _ _ _ _) (seq_go (step17 W _ _ _ _ _ _ _ _ _) (seq_go (step18 W _ _ _ _ _ _ _ _ _) (step19 W _ _ _ _ _ _ _ _ _))))))))⟩
end K36
end

section
set_option Elab.async false
set_option linter.all false
set_option autoImplicit false
set_option maxRecDepth 100000
set_option maxHeartbeats 4000000
/-! printed by gen.py -/
namespace P_k36_whole_set_identities
open PySem PySem.Spec L2 DL
open PyProof.Rows (envOfC)
theorem all_mk {l : PySem.W.OpenLaw} {w : World} {K : PySem.W.Frag} {h : Heap} {mg : Str → Option Value} {fa : Addr} (X : K.In h) (G : h.Ns mainGlobals mg) (hfa : mg "law" = some (.ref fa))
    {C0 : Addr}
    {C1 : Addr}
    {C2 : Addr}
    {t_MOST_PERIOD : Tok}
    {a_is_number : Addr} {od_is_number an_is_number : Option Addr} {sl_is_number : Array (Option Value)} {oc_is_number kV_is_number dc_is_number pm_is_number cd_is_number ct_is_number : Value}
    {a__are_numbers : Addr} {od__are_numbers an__are_numbers : Option Addr} {sl__are_numbers : Array (Option Value)} {oc__are_numbers kV__are_numbers dc__are_numbers pm__are_numbers cd__are_numbers ct__are_numbers : Value}
    {a__least_period : Addr} {od__least_period an__least_period : Option Addr} {sl__least_period : Array (Option Value)} {oc__least_period kV__least_period dc__least_period pm__least_period cd__least_period ct__least_period : Value}
    {a_least_form : Addr} {od_least_form an_least_form : Option Addr} {sl_least_form : Array (Option Value)} {oc_least_form kV_least_form dc_least_form pm_least_form cd_least_form ct_least_form : Value}
    {a_Sizes___init__ : Addr} {od_Sizes___init__ an_Sizes___init__ : Option Addr} {sl_Sizes___init__ : Array (Option Value)} {oc_Sizes___init__ kV_Sizes___init__ dc_Sizes___init__ pm_Sizes___init__ cd_Sizes___init__ ct_Sizes___init__ : Value}
    {a_Sizes___eq__ : Addr} {od_Sizes___eq__ an_Sizes___eq__ : Option Addr} {sl_Sizes___eq__ : Array (Option Value)} {oc_Sizes___eq__ kV_Sizes___eq__ dc_Sizes___eq__ pm_Sizes___eq__ cd_Sizes___eq__ ct_Sizes___eq__ : Value}
    {a_Sizes___contains__ : Addr} {od_Sizes___contains__ an_Sizes___contains__ : Option Addr} {sl_Sizes___contains__ : Array (Option Value)} {oc_Sizes___contains__ kV_Sizes___contains__ dc_Sizes___contains__ pm_Sizes___contains__ cd_Sizes___contains__ ct_Sizes___contains__ : Value}
    {a_common : Addr} {od_common an_common : Option Addr} {sl_common : Array (Option Value)} {oc_common kV_common dc_common pm_common cd_common ct_common : Value}
    {a_marks_of : Addr} {od_marks_of an_marks_of : Option Addr} {sl_marks_of : Array (Option Value)} {oc_marks_of kV_marks_of dc_marks_of pm_marks_of cd_marks_of ct_marks_of : Value}
    {a_set_form : Addr} {od_set_form an_set_form : Option Addr} {sl_set_form : Array (Option Value)} {oc_set_form kV_set_form dc_set_form pm_set_form cd_set_form ct_set_form : Value}
    {a_Sizes___and__ : Addr} {od_Sizes___and__ an_Sizes___and__ : Option Addr} {sl_Sizes___and__ : Array (Option Value)} {oc_Sizes___and__ kV_Sizes___and__ dc_Sizes___and__ pm_Sizes___and__ cd_Sizes___and__ ct_Sizes___and__ : Value}
    {a_Sizes___or__ : Addr} {od_Sizes___or__ an_Sizes___or__ : Option Addr} {sl_Sizes___or__ : Array (Option Value)} {oc_Sizes___or__ kV_Sizes___or__ dc_Sizes___or__ pm_Sizes___or__ cd_Sizes___or__ ct_Sizes___or__ : Value}
    {a_Sizes___sub__ : Addr} {od_Sizes___sub__ an_Sizes___sub__ : Option Addr} {sl_Sizes___sub__ : Array (Option Value)} {oc_Sizes___sub__ kV_Sizes___sub__ dc_Sizes___sub__ pm_Sizes___sub__ cd_Sizes___sub__ ct_Sizes___sub__ : Value}
    {a_Sizes___invert__ : Addr} {od_Sizes___invert__ an_Sizes___invert__ : Option Addr} {sl_Sizes___invert__ : Array (Option Value)} {oc_Sizes___invert__ kV_Sizes___invert__ dc_Sizes___invert__ pm_Sizes___invert__ cd_Sizes___invert__ ct_Sizes___invert__ : Value}
    {a_Sizes___bool__ : Addr} {od_Sizes___bool__ an_Sizes___bool__ : Option Addr} {sl_Sizes___bool__ : Array (Option Value)} {oc_Sizes___bool__ kV_Sizes___bool__ dc_Sizes___bool__ pm_Sizes___bool__ cd_Sizes___bool__ ct_Sizes___bool__ : Value}
    {a_Sizes_many : Addr} {od_Sizes_many an_Sizes_many : Option Addr} {sl_Sizes_many : Array (Option Value)} {oc_Sizes_many kV_Sizes_many dc_Sizes_many pm_Sizes_many cd_Sizes_many ct_Sizes_many : Value}
    {p_Sizes_many : Addr} {rs_Sizes_many : List Value}
    {a_Sizes_least : Addr} {od_Sizes_least an_Sizes_least : Option Addr} {sl_Sizes_least : Array (Option Value)} {oc_Sizes_least kV_Sizes_least dc_Sizes_least pm_Sizes_least cd_Sizes_least ct_Sizes_least : Value}
    {a_Sizes_first : Addr} {od_Sizes_first an_Sizes_first : Option Addr} {sl_Sizes_first : Array (Option Value)} {oc_Sizes_first kV_Sizes_first dc_Sizes_first pm_Sizes_first cd_Sizes_first ct_Sizes_first : Value}
    {a_Sizes_within : Addr} {od_Sizes_within an_Sizes_within : Option Addr} {sl_Sizes_within : Array (Option Value)} {oc_Sizes_within kV_Sizes_within dc_Sizes_within pm_Sizes_within cd_Sizes_within ct_Sizes_within : Value}
    {a__law_number : Addr} {od__law_number an__law_number : Option Addr} {sl__law_number : Array (Option Value)} {oc__law_number kV__law_number dc__law_number pm__law_number cd__law_number ct__law_number : Value}
    {a__law_take : Addr} {od__law_take an__law_take : Option Addr} {sl__law_take : Array (Option Value)} {oc__law_take kV__law_take dc__law_take pm__law_take cd__law_take ct__law_take : Value}
    {a__law_pick : Addr} {od__law_pick an__law_pick : Option Addr} {sl__law_pick : Array (Option Value)} {oc__law_pick kV__law_pick dc__law_pick pm__law_pick cd__law_pick ct__law_pick : Value}
    {a__law_set : Addr} {od__law_set an__law_set : Option Addr} {sl__law_set : Array (Option Value)} {oc__law_set kV__law_set dc__law_set pm__law_set cd__law_set ct__law_set : Value}
    {a__law_form : Addr} {od__law_form an__law_form : Option Addr} {sl__law_form : Array (Option Value)} {oc__law_form kV__law_form dc__law_form pm__law_form cd__law_form ct__law_form : Value}
    {a__law_same : Addr} {od__law_same an__law_same : Option Addr} {sl__law_same : Array (Option Value)} {oc__law_same kV__law_same dc__law_same pm__law_same cd__law_same ct__law_same : Value}
    {a__law_is_refused : Addr} {od__law_is_refused an__law_is_refused : Option Addr} {sl__law_is_refused : Array (Option Value)} {oc__law_is_refused kV__law_is_refused dc__law_is_refused pm__law_is_refused cd__law_is_refused ct__law_is_refused : Value}
    {a_law : Addr} {od_law an_law : Option Addr} {sl_law : Array (Option Value)} {oc_law kV_law dc_law pm_law cd_law ct_law : Value}
    {cc PP : Addr}
    (aC0 : PySem.W.nsIn K mainGlobals "StitchError" = some (some (.ref C0)))
    (aC1 : PySem.W.nsIn K mainGlobals "BadSizes" = some (some (.ref C1)))
    (aC2 : PySem.W.nsIn K mainGlobals "Sizes" = some (some (.ref C2)))
    (xb1 : PySem.W.excIn K C1 [.type "ValueError", .type "Exception", .type "BaseException", .type "object"] "ValueError.__new__" = true)
    (kc1 : PySem.W.keepIn K (.ref C1) = true)
    (sb1 : PySem.W.subIn K (.ref C1) (.type "BaseException") = some true)
    (ty1 : PySem.W.typeIn K (.ref C1) = some (.type "type"))
    (hd1 : PySem.W.hasDictIn K C1 = true)
    (se1_1 : PySem.W.subIn K (.ref C1) (.ref C1) = some true)
    (sf2 : PySem.W.selfFirst K C2 = true)
    (ne2 : PySem.W.findIn K (.ref C2) "__ne__" = some (some (.builtin "object.__ne__")))
    (ob2 : PySem.W.subIn K (.ref C2) (.type "object") = some true)
    (ia2 : PySem.W.findIn K (.ref C2) "__class__" = some (some (.builtin "object.__class__")))
    (in2 : PySem.W.specialIn K (.builtin "object.__class__") "__get__" = some (some (.builtin "getset_descriptor.__get__")))
    (it2 : PySem.W.takesIn K (.builtin "object.__class__") = some true)
    (im2 : PySem.W.mroIn K C2 (.type "object") = some true)
    (pg2 : PySem.W.plainGet K C2 Str.empty = true)
    (hd2 : PySem.W.hasDictIn K C2 = true)
    (po2 : PySem.W.plainOver K C2 = true)
    (sa2 : PySem.W.findIn K (.ref C2) "__setattr__" = some (some (.builtin "object.__setattr__")))
    (mk2 : PySem.W.makesIn K C2 = true)
    (kc2 : PySem.W.keepIn K (.ref C2) = true)
    (n2_early : PySem.W.findIn K (.ref C2) "early" = some none)
    (n2_form : PySem.W.findIn K (.ref C2) "form" = some none)
    (n2_later : PySem.W.findIn K (.ref C2) "later" = some none)
    (n2_period : PySem.W.findIn K (.ref C2) "period" = some none)
    (n2_start : PySem.W.findIn K (.ref C2) "start" = some none)
    (b_abs : PySem.W.nsIn K mainGlobals "abs" = some none)
    (b_all : PySem.W.nsIn K mainGlobals "all" = some none)
    (b_bool : PySem.W.nsIn K mainGlobals "bool" = some none)
    (b_int : PySem.W.nsIn K mainGlobals "int" = some none)
    (b_isinstance : PySem.W.nsIn K mainGlobals "isinstance" = some none)
    (b_len : PySem.W.nsIn K mainGlobals "len" = some none)
    (b_list : PySem.W.nsIn K mainGlobals "list" = some none)
    (b_max : PySem.W.nsIn K mainGlobals "max" = some none)
    (b_min : PySem.W.nsIn K mainGlobals "min" = some none)
    (b_range : PySem.W.nsIn K mainGlobals "range" = some none)
    (b_set : PySem.W.nsIn K mainGlobals "set" = some none)
    (b_sorted : PySem.W.nsIn K mainGlobals "sorted" = some none)
    (b_tuple : PySem.W.nsIn K mainGlobals "tuple" = some none)
    (b_zip : PySem.W.nsIn K mainGlobals "zip" = some none)
    (c_MOST_PERIOD : PySem.W.nsIn K mainGlobals "MOST_PERIOD" = some (some (.int 5040 t_MOST_PERIOD)))
    (x_is_number : PySem.W.nsIn K mainGlobals "is_number" = some (some (.ref a_is_number)))
    (l_is_number : K.lookup a_is_number = some ⟨oc_is_number, od_is_number, .func (PySem.W.fnOf "is_number" "is_number" (defArgs s_is_number) (defBody s_is_number) (defScope s_is_number) .none kV_is_number dc_is_number pm_is_number an_is_number cd_is_number ct_is_number), sl_is_number⟩)
    (d_is_number : PySem.W.codeIn K cd_is_number "is_number" = true) (k_is_number : PySem.W.keepIn K (.ref a_is_number) = true)
    (x__are_numbers : PySem.W.nsIn K mainGlobals "_are_numbers" = some (some (.ref a__are_numbers)))
    (l__are_numbers : K.lookup a__are_numbers = some ⟨oc__are_numbers, od__are_numbers, .func (PySem.W.fnOf "_are_numbers" "_are_numbers" (defArgs s__are_numbers) (defBody s__are_numbers) (defScope s__are_numbers) .none kV__are_numbers dc__are_numbers pm__are_numbers an__are_numbers cd__are_numbers ct__are_numbers), sl__are_numbers⟩)
    (d__are_numbers : PySem.W.codeIn K cd__are_numbers "_are_numbers" = true) (k__are_numbers : PySem.W.keepIn K (.ref a__are_numbers) = true)
    (x__least_period : PySem.W.nsIn K mainGlobals "_least_period" = some (some (.ref a__least_period)))
    (l__least_period : K.lookup a__least_period = some ⟨oc__least_period, od__least_period, .func (PySem.W.fnOf "_least_period" "_least_period" (defArgs s__least_period) (defBody s__least_period) (defScope s__least_period) .none kV__least_period dc__least_period pm__least_period an__least_period cd__least_period ct__least_period), sl__least_period⟩)
    (d__least_period : PySem.W.codeIn K cd__least_period "_least_period" = true) (k__least_period : PySem.W.keepIn K (.ref a__least_period) = true)
    (x_least_form : PySem.W.nsIn K mainGlobals "least_form" = some (some (.ref a_least_form)))
    (l_least_form : K.lookup a_least_form = some ⟨oc_least_form, od_least_form, .func (PySem.W.fnOf "least_form" "least_form" (defArgs s_least_form) (defBody s_least_form) (defScope s_least_form) .none kV_least_form dc_least_form pm_least_form an_least_form cd_least_form ct_least_form), sl_least_form⟩)
    (d_least_form : PySem.W.codeIn K cd_least_form "least_form" = true) (k_least_form : PySem.W.keepIn K (.ref a_least_form) = true)
    (x_Sizes___init__ : PySem.W.findIn K (.ref C2) "__init__" = some (some (.ref a_Sizes___init__))) (i_Sizes___init__ : PySem.W.isFn K (.ref a_Sizes___init__) = true)
    (l_Sizes___init__ : K.lookup a_Sizes___init__ = some ⟨oc_Sizes___init__, od_Sizes___init__, .func (PySem.W.fnOf "__init__" "Sizes.__init__" (defArgs s_Sizes___init__) (defBody s_Sizes___init__) (defScope s_Sizes___init__) .none kV_Sizes___init__ dc_Sizes___init__ pm_Sizes___init__ an_Sizes___init__ cd_Sizes___init__ ct_Sizes___init__), sl_Sizes___init__⟩)
    (d_Sizes___init__ : PySem.W.codeIn K cd_Sizes___init__ "Sizes.__init__" = true) (k_Sizes___init__ : PySem.W.keepIn K (.ref a_Sizes___init__) = true)
    (x_Sizes___eq__ : PySem.W.findIn K (.ref C2) "__eq__" = some (some (.ref a_Sizes___eq__))) (i_Sizes___eq__ : PySem.W.isFn K (.ref a_Sizes___eq__) = true)
    (l_Sizes___eq__ : K.lookup a_Sizes___eq__ = some ⟨oc_Sizes___eq__, od_Sizes___eq__, .func (PySem.W.fnOf "__eq__" "Sizes.__eq__" (defArgs s_Sizes___eq__) (defBody s_Sizes___eq__) (defScope s_Sizes___eq__) .none kV_Sizes___eq__ dc_Sizes___eq__ pm_Sizes___eq__ an_Sizes___eq__ cd_Sizes___eq__ ct_Sizes___eq__), sl_Sizes___eq__⟩)
    (d_Sizes___eq__ : PySem.W.codeIn K cd_Sizes___eq__ "Sizes.__eq__" = true) (k_Sizes___eq__ : PySem.W.keepIn K (.ref a_Sizes___eq__) = true)
    (x_Sizes___contains__ : PySem.W.findIn K (.ref C2) "__contains__" = some (some (.ref a_Sizes___contains__))) (i_Sizes___contains__ : PySem.W.isFn K (.ref a_Sizes___contains__) = true)
    (l_Sizes___contains__ : K.lookup a_Sizes___contains__ = some ⟨oc_Sizes___contains__, od_Sizes___contains__, .func (PySem.W.fnOf "__contains__" "Sizes.__contains__" (defArgs s_Sizes___contains__) (defBody s_Sizes___contains__) (defScope s_Sizes___contains__) .none kV_Sizes___contains__ dc_Sizes___contains__ pm_Sizes___contains__ an_Sizes___contains__ cd_Sizes___contains__ ct_Sizes___contains__), sl_Sizes___contains__⟩)
    (d_Sizes___contains__ : PySem.W.codeIn K cd_Sizes___contains__ "Sizes.__contains__" = true) (k_Sizes___contains__ : PySem.W.keepIn K (.ref a_Sizes___contains__) = true)
    (x_common : PySem.W.nsIn K mainGlobals "common" = some (some (.ref a_common)))
    (l_common : K.lookup a_common = some ⟨oc_common, od_common, .func (PySem.W.fnOf "common" "common" (defArgs s_common) (defBody s_common) (defScope s_common) .none kV_common dc_common pm_common an_common cd_common ct_common), sl_common⟩)
    (d_common : PySem.W.codeIn K cd_common "common" = true) (k_common : PySem.W.keepIn K (.ref a_common) = true)
    (x_marks_of : PySem.W.nsIn K mainGlobals "marks_of" = some (some (.ref a_marks_of)))
    (l_marks_of : K.lookup a_marks_of = some ⟨oc_marks_of, od_marks_of, .func (PySem.W.fnOf "marks_of" "marks_of" (defArgs s_marks_of) (defBody s_marks_of) (defScope s_marks_of) .none kV_marks_of dc_marks_of pm_marks_of an_marks_of cd_marks_of ct_marks_of), sl_marks_of⟩)
    (d_marks_of : PySem.W.codeIn K cd_marks_of "marks_of" = true) (k_marks_of : PySem.W.keepIn K (.ref a_marks_of) = true)
    (x_set_form : PySem.W.nsIn K mainGlobals "set_form" = some (some (.ref a_set_form)))
    (l_set_form : K.lookup a_set_form = some ⟨oc_set_form, od_set_form, .func (PySem.W.fnOf "set_form" "set_form" (defArgs s_set_form) (defBody s_set_form) (defScope s_set_form) .none kV_set_form dc_set_form pm_set_form an_set_form cd_set_form ct_set_form), sl_set_form⟩)
    (d_set_form : PySem.W.codeIn K cd_set_form "set_form" = true) (k_set_form : PySem.W.keepIn K (.ref a_set_form) = true)
    (x_Sizes___and__ : PySem.W.findIn K (.ref C2) "__and__" = some (some (.ref a_Sizes___and__))) (i_Sizes___and__ : PySem.W.isFn K (.ref a_Sizes___and__) = true)
    (l_Sizes___and__ : K.lookup a_Sizes___and__ = some ⟨oc_Sizes___and__, od_Sizes___and__, .func (PySem.W.fnOf "__and__" "Sizes.__and__" (defArgs s_Sizes___and__) (defBody s_Sizes___and__) (defScope s_Sizes___and__) .none kV_Sizes___and__ dc_Sizes___and__ pm_Sizes___and__ an_Sizes___and__ cd_Sizes___and__ ct_Sizes___and__), sl_Sizes___and__⟩)
    (d_Sizes___and__ : PySem.W.codeIn K cd_Sizes___and__ "Sizes.__and__" = true) (k_Sizes___and__ : PySem.W.keepIn K (.ref a_Sizes___and__) = true)
    (x_Sizes___or__ : PySem.W.findIn K (.ref C2) "__or__" = some (some (.ref a_Sizes___or__))) (i_Sizes___or__ : PySem.W.isFn K (.ref a_Sizes___or__) = true)
    (l_Sizes___or__ : K.lookup a_Sizes___or__ = some ⟨oc_Sizes___or__, od_Sizes___or__, .func (PySem.W.fnOf "__or__" "Sizes.__or__" (defArgs s_Sizes___or__) (defBody s_Sizes___or__) (defScope s_Sizes___or__) .none kV_Sizes___or__ dc_Sizes___or__ pm_Sizes___or__ an_Sizes___or__ cd_Sizes___or__ ct_Sizes___or__), sl_Sizes___or__⟩)
    (d_Sizes___or__ : PySem.W.codeIn K cd_Sizes___or__ "Sizes.__or__" = true) (k_Sizes___or__ : PySem.W.keepIn K (.ref a_Sizes___or__) = true)
    (x_Sizes___sub__ : PySem.W.findIn K (.ref C2) "__sub__" = some (some (.ref a_Sizes___sub__))) (i_Sizes___sub__ : PySem.W.isFn K (.ref a_Sizes___sub__) = true)
    (l_Sizes___sub__ : K.lookup a_Sizes___sub__ = some ⟨oc_Sizes___sub__, od_Sizes___sub__, .func (PySem.W.fnOf "__sub__" "Sizes.__sub__" (defArgs s_Sizes___sub__) (defBody s_Sizes___sub__) (defScope s_Sizes___sub__) .none kV_Sizes___sub__ dc_Sizes___sub__ pm_Sizes___sub__ an_Sizes___sub__ cd_Sizes___sub__ ct_Sizes___sub__), sl_Sizes___sub__⟩)
    (d_Sizes___sub__ : PySem.W.codeIn K cd_Sizes___sub__ "Sizes.__sub__" = true) (k_Sizes___sub__ : PySem.W.keepIn K (.ref a_Sizes___sub__) = true)
    (x_Sizes___invert__ : PySem.W.findIn K (.ref C2) "__invert__" = some (some (.ref a_Sizes___invert__))) (i_Sizes___invert__ : PySem.W.isFn K (.ref a_Sizes___invert__) = true)
    (l_Sizes___invert__ : K.lookup a_Sizes___invert__ = some ⟨oc_Sizes___invert__, od_Sizes___invert__, .func (PySem.W.fnOf "__invert__" "Sizes.__invert__" (defArgs s_Sizes___invert__) (defBody s_Sizes___invert__) (defScope s_Sizes___invert__) .none kV_Sizes___invert__ dc_Sizes___invert__ pm_Sizes___invert__ an_Sizes___invert__ cd_Sizes___invert__ ct_Sizes___invert__), sl_Sizes___invert__⟩)
    (d_Sizes___invert__ : PySem.W.codeIn K cd_Sizes___invert__ "Sizes.__invert__" = true) (k_Sizes___invert__ : PySem.W.keepIn K (.ref a_Sizes___invert__) = true)
    (x_Sizes___bool__ : PySem.W.findIn K (.ref C2) "__bool__" = some (some (.ref a_Sizes___bool__))) (i_Sizes___bool__ : PySem.W.isFn K (.ref a_Sizes___bool__) = true)
    (l_Sizes___bool__ : K.lookup a_Sizes___bool__ = some ⟨oc_Sizes___bool__, od_Sizes___bool__, .func (PySem.W.fnOf "__bool__" "Sizes.__bool__" (defArgs s_Sizes___bool__) (defBody s_Sizes___bool__) (defScope s_Sizes___bool__) .none kV_Sizes___bool__ dc_Sizes___bool__ pm_Sizes___bool__ an_Sizes___bool__ cd_Sizes___bool__ ct_Sizes___bool__), sl_Sizes___bool__⟩)
    (d_Sizes___bool__ : PySem.W.codeIn K cd_Sizes___bool__ "Sizes.__bool__" = true) (k_Sizes___bool__ : PySem.W.keepIn K (.ref a_Sizes___bool__) = true)
    (x_Sizes_many : PySem.W.findIn K (.ref C2) "many" = some (some (.ref p_Sizes_many)))
    (pg_Sizes_many : PySem.W.specialIn K (.ref p_Sizes_many) "__get__" = some (some (.builtin "property.__get__")))
    (pt_Sizes_many : PySem.W.takesIn K (.ref p_Sizes_many) = some true)
    (pr_Sizes_many : PySem.W.recIn K p_Sizes_many "property" = some (.ref a_Sizes_many :: rs_Sizes_many))
    (l_Sizes_many : K.lookup a_Sizes_many = some ⟨oc_Sizes_many, od_Sizes_many, .func (PySem.W.fnOf "many" "Sizes.many" (defArgs s_Sizes_many) (defBody s_Sizes_many) (defScope s_Sizes_many) .none kV_Sizes_many dc_Sizes_many pm_Sizes_many an_Sizes_many cd_Sizes_many ct_Sizes_many), sl_Sizes_many⟩)
    (d_Sizes_many : PySem.W.codeIn K cd_Sizes_many "Sizes.many" = true) (k_Sizes_many : PySem.W.keepIn K (.ref a_Sizes_many) = true)
    (x_Sizes_least : PySem.W.findIn K (.ref C2) "least" = some (some (.ref a_Sizes_least))) (i_Sizes_least : PySem.W.isFn K (.ref a_Sizes_least) = true)
    (l_Sizes_least : K.lookup a_Sizes_least = some ⟨oc_Sizes_least, od_Sizes_least, .func (PySem.W.fnOf "least" "Sizes.least" (defArgs s_Sizes_least) (defBody s_Sizes_least) (defScope s_Sizes_least) .none kV_Sizes_least dc_Sizes_least pm_Sizes_least an_Sizes_least cd_Sizes_least ct_Sizes_least), sl_Sizes_least⟩)
    (d_Sizes_least : PySem.W.codeIn K cd_Sizes_least "Sizes.least" = true) (k_Sizes_least : PySem.W.keepIn K (.ref a_Sizes_least) = true)
    (x_Sizes_first : PySem.W.findIn K (.ref C2) "first" = some (some (.ref a_Sizes_first))) (i_Sizes_first : PySem.W.isFn K (.ref a_Sizes_first) = true)
    (l_Sizes_first : K.lookup a_Sizes_first = some ⟨oc_Sizes_first, od_Sizes_first, .func (PySem.W.fnOf "first" "Sizes.first" (defArgs s_Sizes_first) (defBody s_Sizes_first) (defScope s_Sizes_first) .none kV_Sizes_first dc_Sizes_first pm_Sizes_first an_Sizes_first cd_Sizes_first ct_Sizes_first), sl_Sizes_first⟩)
    (d_Sizes_first : PySem.W.codeIn K cd_Sizes_first "Sizes.first" = true) (k_Sizes_first : PySem.W.keepIn K (.ref a_Sizes_first) = true)
    (x_Sizes_within : PySem.W.findIn K (.ref C2) "within" = some (some (.ref a_Sizes_within))) (i_Sizes_within : PySem.W.isFn K (.ref a_Sizes_within) = true)
    (l_Sizes_within : K.lookup a_Sizes_within = some ⟨oc_Sizes_within, od_Sizes_within, .func (PySem.W.fnOf "within" "Sizes.within" (defArgs s_Sizes_within) (defBody s_Sizes_within) (defScope s_Sizes_within) .none kV_Sizes_within dc_Sizes_within pm_Sizes_within an_Sizes_within cd_Sizes_within ct_Sizes_within), sl_Sizes_within⟩)
    (d_Sizes_within : PySem.W.codeIn K cd_Sizes_within "Sizes.within" = true) (k_Sizes_within : PySem.W.keepIn K (.ref a_Sizes_within) = true)
    (x__law_number : PySem.W.nsIn K mainGlobals "_law_number" = some (some (.ref a__law_number)))
    (l__law_number : K.lookup a__law_number = some ⟨oc__law_number, od__law_number, .func (PySem.W.fnOf "_law_number" "_law_number" (defArgs s__law_number) (defBody s__law_number) (defScope s__law_number) .none kV__law_number dc__law_number pm__law_number an__law_number cd__law_number ct__law_number), sl__law_number⟩)
    (d__law_number : PySem.W.codeIn K cd__law_number "_law_number" = true) (k__law_number : PySem.W.keepIn K (.ref a__law_number) = true)
    (x__law_take : PySem.W.nsIn K mainGlobals "_law_take" = some (some (.ref a__law_take)))
    (l__law_take : K.lookup a__law_take = some ⟨oc__law_take, od__law_take, .func (PySem.W.fnOf "_law_take" "_law_take" (defArgs s__law_take) (defBody s__law_take) (defScope s__law_take) .none kV__law_take dc__law_take pm__law_take an__law_take cd__law_take ct__law_take), sl__law_take⟩)
    (d__law_take : PySem.W.codeIn K cd__law_take "_law_take" = true) (k__law_take : PySem.W.keepIn K (.ref a__law_take) = true)
    (x__law_pick : PySem.W.nsIn K mainGlobals "_law_pick" = some (some (.ref a__law_pick)))
    (l__law_pick : K.lookup a__law_pick = some ⟨oc__law_pick, od__law_pick, .func (PySem.W.fnOf "_law_pick" "_law_pick" (defArgs s__law_pick) (defBody s__law_pick) (defScope s__law_pick) .none kV__law_pick dc__law_pick pm__law_pick an__law_pick cd__law_pick ct__law_pick), sl__law_pick⟩)
    (d__law_pick : PySem.W.codeIn K cd__law_pick "_law_pick" = true) (k__law_pick : PySem.W.keepIn K (.ref a__law_pick) = true)
    (x__law_set : PySem.W.nsIn K mainGlobals "_law_set" = some (some (.ref a__law_set)))
    (l__law_set : K.lookup a__law_set = some ⟨oc__law_set, od__law_set, .func (PySem.W.fnOf "_law_set" "_law_set" (defArgs s__law_set) (defBody s__law_set) (defScope s__law_set) .none kV__law_set dc__law_set pm__law_set an__law_set cd__law_set ct__law_set), sl__law_set⟩)
    (d__law_set : PySem.W.codeIn K cd__law_set "_law_set" = true) (k__law_set : PySem.W.keepIn K (.ref a__law_set) = true)
    (x__law_form : PySem.W.nsIn K mainGlobals "_law_form" = some (some (.ref a__law_form)))
    (l__law_form : K.lookup a__law_form = some ⟨oc__law_form, od__law_form, .func (PySem.W.fnOf "_law_form" "_law_form" (defArgs s__law_form) (defBody s__law_form) (defScope s__law_form) .none kV__law_form dc__law_form pm__law_form an__law_form cd__law_form ct__law_form), sl__law_form⟩)
    (d__law_form : PySem.W.codeIn K cd__law_form "_law_form" = true) (k__law_form : PySem.W.keepIn K (.ref a__law_form) = true)
    (x__law_same : PySem.W.nsIn K mainGlobals "_law_same" = some (some (.ref a__law_same)))
    (l__law_same : K.lookup a__law_same = some ⟨oc__law_same, od__law_same, .func (PySem.W.fnOf "_law_same" "_law_same" (defArgs s__law_same) (defBody s__law_same) (defScope s__law_same) .none kV__law_same dc__law_same pm__law_same an__law_same cd__law_same ct__law_same), sl__law_same⟩)
    (d__law_same : PySem.W.codeIn K cd__law_same "_law_same" = true) (k__law_same : PySem.W.keepIn K (.ref a__law_same) = true)
    (x__law_is_refused : PySem.W.nsIn K mainGlobals "_law_is_refused" = some (some (.ref a__law_is_refused)))
    (l__law_is_refused : K.lookup a__law_is_refused = some ⟨oc__law_is_refused, od__law_is_refused, .func (PySem.W.fnOf "_law_is_refused" "_law_is_refused" (defArgs s__law_is_refused) (defBody s__law_is_refused) (defScope s__law_is_refused) .none kV__law_is_refused dc__law_is_refused pm__law_is_refused an__law_is_refused cd__law_is_refused ct__law_is_refused), sl__law_is_refused⟩)
    (d__law_is_refused : PySem.W.codeIn K cd__law_is_refused "_law_is_refused" = true) (k__law_is_refused : PySem.W.keepIn K (.ref a__law_is_refused) = true)
    (x_law : PySem.W.nsIn K mainGlobals "law" = some (some (.ref a_law)))
    (l_law : K.lookup a_law = some ⟨oc_law, od_law, .func (PySem.W.fnOf "law" "law" (defArgs s_law) (defBody s_law) (defScope s_law) .none kV_law dc_law pm_law an_law cd_law ct_law), sl_law⟩)
    (d_law : PySem.W.codeIn K cd_law "law" = true) (k_law : PySem.W.keepIn K (.ref a_law) = true)
    (hcd : cd_law = .ref cc) :
    ∃ fd : FuncData, (∀ (s : Shared) (v : Value), BindsTo s fd ⟨[v], []⟩ [("_law_script", v)]) ∧ ∀ base : Heap, K.In base → base.Ns mainGlobals mg → LamX.TabB base mg cc PP → FnOk l.prog w K mg base (L2.CX l.prog w) 10 fa fd ["_law_script"] (spLaw K [(PP, (("law" : Str) ++ (".<locals>." : Str)) ++ ("<lambda>" : Str))]) := by
  have e := hfa.symm.trans (PySem.W.mg_of X G x_law)
  cases e
  let cl : Nat → Addr := fun i => if i = 0 then C0 else if i = 1 then C1 else if i = 2 then C2 else 0
  have F__law_is_refused := fun_mk (st := s__law_is_refused) l__law_is_refused d__law_is_refused k__law_is_refused
  have B__law_is_refused := F__law_is_refused.binds (ps := ["_law_deed"]) fun _ _ _ _ _ _ us hl => match us, hl with | [_], _ => rfl
  have TT : ∀ W : Wd, W.cl = cl → Txt K w mg W := fun W hW => ⟨by rw [hW]; exact ⟨pg2, hd2, po2, sa2⟩, by rw [hW]; exact ⟨xb1, PySem.W.mg_of X G aC1, kc1, sb1, ty1⟩, by rw [hW]; exact sf2, by rw [hW]; exact ne2, by rw [hW]; exact ob2, by rw [hW]; exact PySem.W.mg_of X G aC1, by rw [hW]; exact PySem.W.mg_of X G aC2, (by rw [hW]; intro i t h; unfold is2 at h; (by_cases e0 : i = 2; (subst e0; rw [if_pos rfl] at h; cases h; exact ⟨⟨⟨pg2, hd2, po2, sa2⟩, ia2, in2, it2, im2⟩, kit_self⟩)); rw [if_neg e0] at h; cases h), (by rw [hW]; intro i t h; unfold tr1 at h; (by_cases e0 : i = 1; (subst e0; rw [if_pos rfl] at h; cases h; exact PySem.W.exm_ref sb1 hd1 ty1 se1_1)); rw [if_neg e0] at h; cases h), by rw [hW]; exact n2_early, by rw [hW]; exact n2_form, by rw [hW]; exact n2_later, by rw [hW]; exact n2_period, by rw [hW]; exact n2_start, PySem.W.mg_none_of X G b_abs, PySem.W.mg_none_of X G b_all, PySem.W.mg_none_of X G b_bool, PySem.W.mg_none_of X G b_int, PySem.W.mg_none_of X G b_isinstance, PySem.W.mg_none_of X G b_len, PySem.W.mg_none_of X G b_list, PySem.W.mg_none_of X G b_max, PySem.W.mg_none_of X G b_min, PySem.W.mg_none_of X G b_range, PySem.W.mg_none_of X G b_set, PySem.W.mg_none_of X G b_sorted, PySem.W.mg_none_of X G b_tuple, PySem.W.mg_none_of X G b_zip, ⟨_, PySem.W.mg_of X G c_MOST_PERIOD⟩, ⟨⟨_, _, _, _, _, _, _, _, _, _, _, _, _, _, N__law_is_refused, _, _, _, _, _, _, _, _, _, _, _, _, PySem.W.mg_of X G x__law_is_refused, k__law_is_refused, l__law_is_refused, d__law_is_refused, B__law_is_refused, sc__law_is_refused, rfl, Or.inl rfl, rfl, rfl, by rw [hW]; exact PySem.W.mg_of X G aC1, by decide, by decide, by decide, by decide⟩⟩⟩
  have F_is_number := fun_mk (st := s_is_number) l_is_number d_is_number k_is_number
  have B_is_number := F_is_number.binds (ps := ["thing"]) fun _ _ _ _ _ _ us hl => match us, hl with | [_], _ => rfl
  have F__are_numbers := fun_mk (st := s__are_numbers) l__are_numbers d__are_numbers k__are_numbers
  have B__are_numbers := F__are_numbers.binds (ps := ["thing", "low", "high"]) fun _ _ _ _ _ _ us hl => match us, hl with | [_, _, _], _ => rfl
  have F__least_period := fun_mk (st := s__least_period) l__least_period d__least_period k__least_period
  have B__least_period := F__least_period.binds (ps := ["marks"]) fun _ _ _ _ _ _ us hl => match us, hl with | [_], _ => rfl
  have F_least_form := fun_mk (st := s_least_form) l_least_form d_least_form k_least_form
  have B_least_form := F_least_form.binds (ps := ["early", "start", "period", "later"]) fun _ _ _ _ _ _ us hl => match us, hl with | [_, _, _, _], _ => rfl
  have F_Sizes___init__ := fun_mk (st := s_Sizes___init__) l_Sizes___init__ d_Sizes___init__ k_Sizes___init__
  have B_Sizes___init__ := F_Sizes___init__.binds (ps := ["self", "early", "start", "period", "later"]) fun _ _ _ _ _ _ us hl => match us, hl with | [_, _, _, _, _], _ => rfl
  have F_Sizes___eq__ := fun_mk (st := s_Sizes___eq__) l_Sizes___eq__ d_Sizes___eq__ k_Sizes___eq__
  have B_Sizes___eq__ := F_Sizes___eq__.binds (ps := ["self", "other"]) fun _ _ _ _ _ _ us hl => match us, hl with | [_, _], _ => rfl
  have F_Sizes___contains__ := fun_mk (st := s_Sizes___contains__) l_Sizes___contains__ d_Sizes___contains__ k_Sizes___contains__
  have B_Sizes___contains__ := F_Sizes___contains__.binds (ps := ["self", "size"]) fun _ _ _ _ _ _ us hl => match us, hl with | [_, _], _ => rfl
  have F_common := fun_mk (st := s_common) l_common d_common k_common
  have B_common := F_common.binds (ps := ["one", "two"]) fun _ _ _ _ _ _ us hl => match us, hl with | [_, _], _ => rfl
  have F_marks_of := fun_mk (st := s_marks_of) l_marks_of d_marks_of k_marks_of
  have B_marks_of := F_marks_of.binds (ps := ["form", "many"]) fun _ _ _ _ _ _ us hl => match us, hl with | [_, _], _ => rfl
  have F_set_form := fun_mk (st := s_set_form) l_set_form d_set_form k_set_form
  have B_set_form := F_set_form.binds (ps := ["one", "two", "word"]) fun _ _ _ _ _ _ us hl => match us, hl with | [_, _, _], _ => rfl
  have F_Sizes___and__ := fun_mk (st := s_Sizes___and__) l_Sizes___and__ d_Sizes___and__ k_Sizes___and__
  have B_Sizes___and__ := F_Sizes___and__.binds (ps := ["self", "other"]) fun _ _ _ _ _ _ us hl => match us, hl with | [_, _], _ => rfl
  have F_Sizes___or__ := fun_mk (st := s_Sizes___or__) l_Sizes___or__ d_Sizes___or__ k_Sizes___or__
  have B_Sizes___or__ := F_Sizes___or__.binds (ps := ["self", "other"]) fun _ _ _ _ _ _ us hl => match us, hl with | [_, _], _ => rfl
  have F_Sizes___sub__ := fun_mk (st := s_Sizes___sub__) l_Sizes___sub__ d_Sizes___sub__ k_Sizes___sub__
  have B_Sizes___sub__ := F_Sizes___sub__.binds (ps := ["self", "other"]) fun _ _ _ _ _ _ us hl => match us, hl with | [_, _], _ => rfl
  have F_Sizes___invert__ := fun_mk (st := s_Sizes___invert__) l_Sizes___invert__ d_Sizes___invert__ k_Sizes___invert__
  have B_Sizes___invert__ := F_Sizes___invert__.binds (ps := ["self"]) fun _ _ _ _ _ _ us hl => match us, hl with | [_], _ => rfl
  have F_Sizes___bool__ := fun_mk (st := s_Sizes___bool__) l_Sizes___bool__ d_Sizes___bool__ k_Sizes___bool__
  have B_Sizes___bool__ := F_Sizes___bool__.binds (ps := ["self"]) fun _ _ _ _ _ _ us hl => match us, hl with | [_], _ => rfl
  have F_Sizes_many := fun_mk (st := s_Sizes_many) l_Sizes_many d_Sizes_many k_Sizes_many
  have B_Sizes_many := F_Sizes_many.binds (ps := ["self"]) fun _ _ _ _ _ _ us hl => match us, hl with | [_], _ => rfl
  have F_Sizes_least := fun_mk (st := s_Sizes_least) l_Sizes_least d_Sizes_least k_Sizes_least
  have B_Sizes_least := F_Sizes_least.binds (ps := ["self"]) fun _ _ _ _ _ _ us hl => match us, hl with | [_], _ => rfl
  have F_Sizes_first := fun_mk (st := s_Sizes_first) l_Sizes_first d_Sizes_first k_Sizes_first
  have B_Sizes_first := F_Sizes_first.binds (ps := ["self", "many"]) fun _ _ _ _ _ _ us hl => match us, hl with | [_, _], _ => rfl
  have F_Sizes_within := fun_mk (st := s_Sizes_within) l_Sizes_within d_Sizes_within k_Sizes_within
  have B_Sizes_within := F_Sizes_within.binds (ps := ["self", "other"]) fun _ _ _ _ _ _ us hl => match us, hl with | [_, _], _ => rfl
  have F__law_number := fun_mk (st := s__law_number) l__law_number d__law_number k__law_number
  have B__law_number := F__law_number.binds (ps := ["_law_script", "_law_index"]) fun _ _ _ _ _ _ us hl => match us, hl with | [_, _], _ => rfl
  have F__law_take := fun_mk (st := s__law_take) l__law_take d__law_take k__law_take
  have B__law_take := F__law_take.binds (ps := ["_law_draw", "_law_many"]) fun _ _ _ _ _ _ us hl => match us, hl with | [_, _], _ => rfl
  have F__law_pick := fun_mk (st := s__law_pick) l__law_pick d__law_pick k__law_pick
  have B__law_pick := F__law_pick.binds (ps := ["_law_draw", "_law_items"]) fun _ _ _ _ _ _ us hl => match us, hl with | [_, _], _ => rfl
  have F__law_set := fun_mk (st := s__law_set) l__law_set d__law_set k__law_set
  have B__law_set := F__law_set.binds (ps := ["_law_draw"]) fun _ _ _ _ _ _ us hl => match us, hl with | [_], _ => rfl
  have F__law_form := fun_mk (st := s__law_form) l__law_form d__law_form k__law_form
  have B__law_form := F__law_form.binds (ps := ["_law_sizes"]) fun _ _ _ _ _ _ us hl => match us, hl with | [_], _ => rfl
  have F__law_same := fun_mk (st := s__law_same) l__law_same d__law_same k__law_same
  have B__law_same := F__law_same.binds (ps := ["_law_one", "_law_two"]) fun _ _ _ _ _ _ us hl => match us, hl with | [_, _], _ => rfl
  have F_law := fun_mk (st := s_law) l_law d_law k_law
  refine ⟨PySem.W.fnOf "law" "law" (defArgs s_law) (defBody s_law) (defScope s_law) .none kV_law dc_law pm_law an_law cd_law ct_law, fun s v => .of_eq rfl, fun base _ _ TBc => ?_⟩
  refine okLaw (cl := cl) (rest := (defBody s_law).drop 1) (fun W => g_law W) F_law sc_law rfl (fun cdv A outer s H E => ps_set (i := 1) sc_law.nd rfl (Or.inl rfl) (pe_lst (pa_cons (pv 0) (pa_cons pe_int pa_nil)))) (fun W hW hTb cdv hcv => ?_) (fun W h _ => K36.good W) (by decide)
  have T := TT W hW
  have G_is_number : Cal l.prog w K mg base "is_number" 1 (spD K W (f_is_number) 1) := ⟨_, _, _, ok_is_number F_is_number T , PySem.W.mg_of X G x_is_number, k_is_number, B_is_number⟩
  have G__are_numbers : Cal l.prog w K mg base "_are_numbers" 2 (spD K W (f__are_numbers) 3) := ⟨_, _, _, ok__are_numbers F__are_numbers T G_is_number, PySem.W.mg_of X G x__are_numbers, k__are_numbers, B__are_numbers⟩
  have G__least_period : Cal l.prog w K mg base "_least_period" 1 (spD K W (f__least_period) 1) := ⟨_, _, _, ok__least_period F__least_period T , PySem.W.mg_of X G x__least_period, k__least_period, B__least_period⟩
  have G_least_form : Cal l.prog w K mg base "least_form" 2 (spD K W (f_least_form) 4) := ⟨_, _, _, ok_least_form F_least_form T G__least_period, PySem.W.mg_of X G x_least_form, k_least_form, B_least_form⟩
  have G_Sizes___init__ : CalI l.prog w K mg base (W.cl 2) "Sizes" 3 (spI K W (f_Sizes___init__) 2 4) := ⟨_, _, _, ok_Sizes___init__ F_Sizes___init__ T G__are_numbers G_is_number G_least_form, by rw [hW]; exact ⟨mk2, x_Sizes___init__, i_Sizes___init__, kc2⟩, by rw [hW]; exact PySem.W.mg_of X G aC2, B_Sizes___init__⟩
  have G_Sizes___eq__ : CalM l.prog w K mg base (W.cl 2) "__eq__" 1 (spD K W (f_Sizes___eq__) 2) := ⟨_, _, _, ok_Sizes___eq__ F_Sizes___eq__ T , by rw [hW]; exact ⟨x_Sizes___eq__, i_Sizes___eq__, k_Sizes___eq__⟩, B_Sizes___eq__⟩
  have G_Sizes___contains__ : CalM l.prog w K mg base (W.cl 2) "__contains__" 2 (spD K W (f_Sizes___contains__) 2) := ⟨_, _, _, ok_Sizes___contains__ F_Sizes___contains__ T G_is_number, by rw [hW]; exact ⟨x_Sizes___contains__, i_Sizes___contains__, k_Sizes___contains__⟩, B_Sizes___contains__⟩
  have G_common : Cal l.prog w K mg base "common" 1 (spD K W (f_common) 2) := ⟨_, _, _, ok_common F_common T , PySem.W.mg_of X G x_common, k_common, B_common⟩
  have G_marks_of : Cal l.prog w K mg base "marks_of" 1 (spD K W (f_marks_of) 2) := ⟨_, _, _, ok_marks_of F_marks_of T , PySem.W.mg_of X G x_marks_of, k_marks_of, B_marks_of⟩
  have G_set_form : Cal l.prog w K mg base "set_form" 2 (spD K W (f_set_form) 3) := ⟨_, _, _, ok_set_form F_set_form T G_common G_marks_of, PySem.W.mg_of X G x_set_form, k_set_form, B_set_form⟩
  have G_Sizes___and__ : CalM l.prog w K mg base (W.cl 2) "__and__" 5 (spD K W (f_Sizes___and__) 2) := ⟨_, _, _, ok_Sizes___and__ F_Sizes___and__ T G_set_form G_Sizes___init__, by rw [hW]; exact ⟨x_Sizes___and__, i_Sizes___and__, k_Sizes___and__⟩, B_Sizes___and__⟩
  have G_Sizes___or__ : CalM l.prog w K mg base (W.cl 2) "__or__" 5 (spD K W (f_Sizes___or__) 2) := ⟨_, _, _, ok_Sizes___or__ F_Sizes___or__ T G_set_form G_Sizes___init__, by rw [hW]; exact ⟨x_Sizes___or__, i_Sizes___or__, k_Sizes___or__⟩, B_Sizes___or__⟩
  have G_Sizes___sub__ : CalM l.prog w K mg base (W.cl 2) "__sub__" 5 (spD K W (f_Sizes___sub__) 2) := ⟨_, _, _, ok_Sizes___sub__ F_Sizes___sub__ T G_set_form G_Sizes___init__, by rw [hW]; exact ⟨x_Sizes___sub__, i_Sizes___sub__, k_Sizes___sub__⟩, B_Sizes___sub__⟩
  have G_Sizes___invert__ : CalM l.prog w K mg base (W.cl 2) "__invert__" 5 (spD K W (f_Sizes___invert__) 1) := ⟨_, _, _, ok_Sizes___invert__ F_Sizes___invert__ T G_set_form G_Sizes___init__, by rw [hW]; exact ⟨x_Sizes___invert__, i_Sizes___invert__, k_Sizes___invert__⟩, B_Sizes___invert__⟩
  have G_Sizes___bool__ : CalM l.prog w K mg base (W.cl 2) "__bool__" 1 (spD K W (f_Sizes___bool__) 1) := ⟨_, _, _, ok_Sizes___bool__ F_Sizes___bool__ T , by rw [hW]; exact ⟨x_Sizes___bool__, i_Sizes___bool__, k_Sizes___bool__⟩, B_Sizes___bool__⟩
  have G_Sizes_many : CalP l.prog w K mg base (W.cl 2) "many" 1 (spD K W (f_Sizes_many) 1) := ⟨_, _, _, _, ok_Sizes_many F_Sizes_many T , by rw [hW]; exact ⟨x_Sizes_many, pg_Sizes_many, pt_Sizes_many, ⟨_, pr_Sizes_many⟩⟩, B_Sizes_many⟩
  have G_Sizes_least : CalM l.prog w K mg base (W.cl 2) "least" 1 (spD K W (f_Sizes_least) 1) := ⟨_, _, _, ok_Sizes_least F_Sizes_least T , by rw [hW]; exact ⟨x_Sizes_least, i_Sizes_least, k_Sizes_least⟩, B_Sizes_least⟩
  have G_Sizes_first : CalM l.prog w K mg base (W.cl 2) "first" 1 (spD K W (f_Sizes_first) 2) := ⟨_, _, _, ok_Sizes_first F_Sizes_first T , by rw [hW]; exact ⟨x_Sizes_first, i_Sizes_first, k_Sizes_first⟩, B_Sizes_first⟩
  have G_Sizes_within : CalM l.prog w K mg base (W.cl 2) "within" 6 (spD K W (f_Sizes_within) 2) := ⟨_, _, _, ok_Sizes_within F_Sizes_within T G_Sizes___bool__ G_Sizes___sub__, by rw [hW]; exact ⟨x_Sizes_within, i_Sizes_within, k_Sizes_within⟩, B_Sizes_within⟩
  have G__law_number : Cal l.prog w K mg base "_law_number" 1 (spD K W (f__law_number W) 2) := ⟨_, _, _, ok__law_number F__law_number T , PySem.W.mg_of X G x__law_number, k__law_number, B__law_number⟩
  have G__law_take : Cal l.prog w K mg base "_law_take" 2 (spD K W (f__law_take W) 2) := ⟨_, _, _, ok__law_take F__law_take T G__law_number, PySem.W.mg_of X G x__law_take, k__law_take, B__law_take⟩
  have G__law_pick : Cal l.prog w K mg base "_law_pick" 3 (spD K W (f__law_pick W) 2) := ⟨_, _, _, ok__law_pick F__law_pick T G__law_take, PySem.W.mg_of X G x__law_pick, k__law_pick, B__law_pick⟩
  have G__law_set : Cal l.prog w K mg base "_law_set" 5 (spD K W (f__law_set W) 1) := ⟨_, _, _, ok__law_set F__law_set T G__law_pick G__law_take G_Sizes___init__, PySem.W.mg_of X G x__law_set, k__law_set, B__law_set⟩
  have G__law_form : Cal l.prog w K mg base "_law_form" 1 (spD K W (f__law_form) 1) := ⟨_, _, _, ok__law_form F__law_form T , PySem.W.mg_of X G x__law_form, k__law_form, B__law_form⟩
  have G__law_same : Cal l.prog w K mg base "_law_same" 3 (spD K W (f__law_same) 2) := ⟨_, _, _, ok__law_same F__law_same T G__law_form G_Sizes___eq__, PySem.W.mg_of X G x__law_same, k__law_same, B__law_same⟩
  exact body_law F_law T G__law_form G__law_same G__law_set G__law_take G_Sizes___init__ G_Sizes___and__ G_Sizes___bool__ G_Sizes___contains__ G_Sizes___eq__ G_Sizes___invert__ G_Sizes___or__ G_Sizes___sub__ G_Sizes_first G_Sizes_least G_Sizes_within G_Sizes_many TBc hTb ((cdv_eq hcv).trans hcd) (Nat.le_refl _)
end P_k36_whole_set_identities
open PySem PySem.W PyProof.Rows in
set_option maxRecDepth 100000 in
set_option maxHeartbeats 0 in
theorem PySem.Challenge.cw_allstitches_k36_whole_set_identities_holds : PySem.Challenge.rw_allstitches_k36_whole_set_identities.Holds := by
  w_on; o_law; k_head; (case hw => w_witness2)
  k_fill
  refine DL.law_walkT (l := PySem.Challenge.rw_allstitches_k36_whole_set_identities) (k := 10) (x := "_law_script") (c := ?cc) (T := (("law" : Str) ++ (".<locals>." : Str)) ++ ("<lambda>" : Str)) rfl rfl ⟨rfl, by decide, by decide⟩ (fun w h Y => PySem.W.km_in_of Y) (fun w h Y => PySem.W.km_tabs_of Y _ (List.mem_singleton.mpr rfl)) ?hL ?hC ?F
  case F =>
    intro w mg fa h KX G hmg
    refine' P_k36_whole_set_identities.all_mk KX G hmg ?aC0 ?aC1 ?aC2 ?xb1 ?kc1 ?sb1 ?ty1 ?hd1 ?se1_1 ?sf2 ?ne2 ?ob2 ?ia2 ?in2 ?it2 ?im2 ?pg2 ?hd2 ?po2 ?sa2 ?mk2 ?kc2 ?n2_early ?n2_form ?n2_later ?n2_period ?n2_start ?b_abs ?b_all ?b_bool ?b_int ?b_isinstance ?b_len ?b_list ?b_max ?b_min ?b_range ?b_set ?b_sorted ?b_tuple ?b_zip ?c_MOST_PERIOD ?x_is_number ?l_is_number ?d_is_number ?k_is_number ?x__are_numbers ?l__are_numbers ?d__are_numbers ?k__are_numbers ?x__least_period ?l__least_period ?d__least_period ?k__least_period ?x_least_form ?l_least_form ?d_least_form ?k_least_form ?x_Sizes___init__ ?i_Sizes___init__ ?l_Sizes___init__ ?d_Sizes___init__ ?k_Sizes___init__ ?x_Sizes___eq__ ?i_Sizes___eq__ ?l_Sizes___eq__ ?d_Sizes___eq__ ?k_Sizes___eq__ ?x_Sizes___contains__ ?i_Sizes___contains__ ?l_Sizes___contains__ ?d_Sizes___contains__ ?k_Sizes___contains__ ?x_common ?l_common ?d_common ?k_common ?x_marks_of ?l_marks_of ?d_marks_of ?k_marks_of ?x_set_form ?l_set_form ?d_set_form ?k_set_form ?x_Sizes___and__ ?i_Sizes___and__ ?l_Sizes___and__ ?d_Sizes___and__ ?k_Sizes___and__ ?x_Sizes___or__ ?i_Sizes___or__ ?l_Sizes___or__ ?d_Sizes___or__ ?k_Sizes___or__ ?x_Sizes___sub__ ?i_Sizes___sub__ ?l_Sizes___sub__ ?d_Sizes___sub__ ?k_Sizes___sub__ ?x_Sizes___invert__ ?i_Sizes___invert__ ?l_Sizes___invert__ ?d_Sizes___invert__ ?k_Sizes___invert__ ?x_Sizes___bool__ ?i_Sizes___bool__ ?l_Sizes___bool__ ?d_Sizes___bool__ ?k_Sizes___bool__ ?x_Sizes_many ?pg_Sizes_many ?pt_Sizes_many ?pr_Sizes_many ?l_Sizes_many ?d_Sizes_many ?k_Sizes_many ?x_Sizes_least ?i_Sizes_least ?l_Sizes_least ?d_Sizes_least ?k_Sizes_least ?x_Sizes_first ?i_Sizes_first ?l_Sizes_first ?d_Sizes_first ?k_Sizes_first ?x_Sizes_within ?i_Sizes_within ?l_Sizes_within ?d_Sizes_within ?k_Sizes_within ?x__law_number ?l__law_number ?d__law_number ?k__law_number ?x__law_take ?l__law_take ?d__law_take ?k__law_take ?x__law_pick ?l__law_pick ?d__law_pick ?k__law_pick ?x__law_set ?l__law_set ?d__law_set ?k__law_set ?x__law_form ?l__law_form ?d__law_form ?k__law_form ?x__law_same ?l__law_same ?d__law_same ?k__law_same ?x__law_is_refused ?l__law_is_refused ?d__law_is_refused ?k__law_is_refused ?x_law ?l_law ?d_law ?k_law ?hcd
    (case aC0 => k_is)
    (case aC1 => k_is)
    (case aC2 => k_is)
    (case xb1 => k_exc)
    (case kc1 => k_is)
    (case sb1 => k_is)
    (case ty1 => k_is)
    (case hd1 => k_is)
    (case se1_1 => k_is)
    (case sf2 => k_is)
    (case ne2 => k_is)
    (case ob2 => k_is)
    (case ia2 => k_is)
    (case in2 => k_is)
    (case it2 => k_is)
    (case im2 => k_is)
    (case pg2 => k_is)
    (case hd2 => k_is)
    (case po2 => k_is)
    (case sa2 => k_is)
    (case mk2 => k_is)
    (case kc2 => k_is)
    (case n2_early => k_is)
    (case n2_form => k_is)
    (case n2_later => k_is)
    (case n2_period => k_is)
    (case n2_start => k_is)
    (case b_abs => k_is)
    (case b_all => k_is)
    (case b_bool => k_is)
    (case b_int => k_is)
    (case b_isinstance => k_is)
    (case b_len => k_is)
    (case b_list => k_is)
    (case b_max => k_is)
    (case b_min => k_is)
    (case b_range => k_is)
    (case b_set => k_is)
    (case b_sorted => k_is)
    (case b_tuple => k_is)
    (case b_zip => k_is)
    (case c_MOST_PERIOD => k_is)
    (case x_is_number => k_is)
    (case l_is_number => k_is)
    (case d_is_number => k_is)
    (case k_is_number => k_is)
    (case x__are_numbers => k_is)
    (case l__are_numbers => k_is)
    (case d__are_numbers => k_is)
    (case k__are_numbers => k_is)
    (case x__least_period => k_is)
    (case l__least_period => k_is)
    (case d__least_period => k_is)
    (case k__least_period => k_is)
    (case x_least_form => k_is)
    (case l_least_form => k_is)
    (case d_least_form => k_is)
    (case k_least_form => k_is)
    (case x_Sizes___init__ => k_is)
    (case i_Sizes___init__ => k_is)
    (case l_Sizes___init__ => k_is)
    (case d_Sizes___init__ => k_is)
    (case k_Sizes___init__ => k_is)
    (case x_Sizes___eq__ => k_is)
    (case i_Sizes___eq__ => k_is)
    (case l_Sizes___eq__ => k_is)
    (case d_Sizes___eq__ => k_is)
    (case k_Sizes___eq__ => k_is)
    (case x_Sizes___contains__ => k_is)
    (case i_Sizes___contains__ => k_is)
    (case l_Sizes___contains__ => k_is)
    (case d_Sizes___contains__ => k_is)
    (case k_Sizes___contains__ => k_is)
    (case x_common => k_is)
    (case l_common => k_is)
    (case d_common => k_is)
    (case k_common => k_is)
    (case x_marks_of => k_is)
    (case l_marks_of => k_is)
    (case d_marks_of => k_is)
    (case k_marks_of => k_is)
    (case x_set_form => k_is)
    (case l_set_form => k_is)
    (case d_set_form => k_is)
    (case k_set_form => k_is)
    (case x_Sizes___and__ => k_is)
    (case i_Sizes___and__ => k_is)
    (case l_Sizes___and__ => k_is)
    (case d_Sizes___and__ => k_is)
    (case k_Sizes___and__ => k_is)
    (case x_Sizes___or__ => k_is)
    (case i_Sizes___or__ => k_is)
    (case l_Sizes___or__ => k_is)
    (case d_Sizes___or__ => k_is)
    (case k_Sizes___or__ => k_is)
    (case x_Sizes___sub__ => k_is)
    (case i_Sizes___sub__ => k_is)
    (case l_Sizes___sub__ => k_is)
    (case d_Sizes___sub__ => k_is)
    (case k_Sizes___sub__ => k_is)
    (case x_Sizes___invert__ => k_is)
    (case i_Sizes___invert__ => k_is)
    (case l_Sizes___invert__ => k_is)
    (case d_Sizes___invert__ => k_is)
    (case k_Sizes___invert__ => k_is)
    (case x_Sizes___bool__ => k_is)
    (case i_Sizes___bool__ => k_is)
    (case l_Sizes___bool__ => k_is)
    (case d_Sizes___bool__ => k_is)
    (case k_Sizes___bool__ => k_is)
    (case x_Sizes_many => k_is)
    (case pg_Sizes_many => k_is)
    (case pt_Sizes_many => k_is)
    (case pr_Sizes_many => k_is)
    (case l_Sizes_many => k_is)
    (case d_Sizes_many => k_is)
    (case k_Sizes_many => k_is)
    (case x_Sizes_least => k_is)
    (case i_Sizes_least => k_is)
    (case l_Sizes_least => k_is)
    (case d_Sizes_least => k_is)
    (case k_Sizes_least => k_is)
    (case x_Sizes_first => k_is)
    (case i_Sizes_first => k_is)
    (case l_Sizes_first => k_is)
    (case d_Sizes_first => k_is)
    (case k_Sizes_first => k_is)
    (case x_Sizes_within => k_is)
    (case i_Sizes_within => k_is)
    (case l_Sizes_within => k_is)
    (case d_Sizes_within => k_is)
    (case k_Sizes_within => k_is)
    (case x__law_number => k_is)
    (case l__law_number => k_is)
    (case d__law_number => k_is)
    (case k__law_number => k_is)
    (case x__law_take => k_is)
    (case l__law_take => k_is)
    (case d__law_take => k_is)
    (case k__law_take => k_is)
    (case x__law_pick => k_is)
    (case l__law_pick => k_is)
    (case d__law_pick => k_is)
    (case k__law_pick => k_is)
    (case x__law_set => k_is)
    (case l__law_set => k_is)
    (case d__law_set => k_is)
    (case k__law_set => k_is)
    (case x__law_form => k_is)
    (case l__law_form => k_is)
    (case d__law_form => k_is)
    (case k__law_form => k_is)
    (case x__law_same => k_is)
    (case l__law_same => k_is)
    (case d__law_same => k_is)
    (case k__law_same => k_is)
    (case x__law_is_refused => k_is)
    (case l__law_is_refused => k_is)
    (case d__law_is_refused => k_is)
    (case k__law_is_refused => k_is)
    (case x_law => k_is)
    (case l_law => k_is)
    (case d_law => k_is)
    (case k_law => k_is)
    (case hcd => rfl)
  case hL => intro p; kernel_rfl
  case hC => intro p; kernel_rfl
end
